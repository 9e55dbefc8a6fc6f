import PyProof.Rows.All
import PyProof.ExcClass2
import PyProof.ExcBaseAll.Exception
import PyProof.StationsW
import KE.KDictOf
import Wide.FinOn
import OpenK.AllK
import Wide.All
import PySem.Challenge.RW_rg0017_01
set_option Elab.async false
set_option linter.unusedVariables false
section
set_option maxRecDepth 100000
namespace Mine
open PySem PySem.W PySem.W.X

/-! ### room on the stack, known only by bounds -/
noncomputable def cnt (l : List (Code × Pos)) : Nat := ((l.map (·.1)).map (·.frames)).sum + ((l.map (·.1)).filter Code.isCreation).length
theorem frames_le (c : Code) : c.frames ≤ 3 := by
  unfold Code.frames
  repeat' split
  all_goals omega
theorem cUnits_le (c : Code) : c.cUnits ≤ 10 := by
  have h := frames_le c
  unfold Code.cUnits
  split <;> omega
theorem cnt_cons (c : Code) (p : Pos) (l : List (Code × Pos)) : cnt ((c, p) :: l) ≤ 4 + cnt l := by
  have h := frames_le c
  unfold cnt
  simp only [List.map_cons, List.sum_cons, List.filter_cons]
  split
  · simp only [List.length_cons]; omega
  · omega

structure Ok (n : Nat) (hd : Option Value) (Γ : Ctx) : Prop where
  handled : Γ.handled = hd
  count : cnt Γ.below ≤ 301 + 4 * n
  units : unitsOf Γ.below ≤ 4 + 10 * n
theorem Ok.goto {n : Nat} {hd : Option Value} {Γ : Ctx} (h : Ok n hd Γ) (c : Code) : Ok n hd (Γ.goto c) := ⟨h.handled, h.count, h.units⟩
noncomputable def markQ (h hd : Option Value) : Option (Option Value) := match h with
  | none => some hd
  | some v => match v with
    | .notImplemented => none
    | v => some (some v)
theorem Ok.enter {n : Nat} {hd h hd' : Option Value} {Γ : Ctx} (k : Ok n hd Γ) (c : Code) (p : Pos) (e : markQ h hd = some hd') : Ok (n + 1) hd' (Γ.enter c h p) := by
  refine ⟨?_, ?_, ?_⟩
  · show markOver h Γ.handled Γ.past = hd'
    cases h with
    | none => cases e; exact k.handled
    | some v =>
      cases v with
      | notImplemented => cases e
      | _ => cases e; rfl
  · show cnt ((Γ.code, p) :: Γ.below) ≤ _
    have := cnt_cons Γ.code p Γ.below
    have := k.count
    omega
  · show unitsOf ((Γ.code, p) :: Γ.below) ≤ _
    rw [unitsOf_cons]
    have := cUnits_le Γ.code
    have := k.units
    omega

/-- an around that a context stands in -/
noncomputable def aroundOf (Γ : Ctx) : Around := { handled := Γ.handled, depth := frameCount Γ.below + Γ.code.weight, frames := none, guards := none, units := Γ.units }
theorem in_aroundOf (Γ : Ctx) : Γ.In (aroundOf Γ) := ⟨rfl, Nat.le_refl _, fun _ h => (nomatch h), fun _ h => (nomatch h), Nat.le_refl _⟩

theorem wp_enter {M : Model} {n : Nat} {hd : Option Value} {Γ : Ctx} {Q : Unit → Pos → Shared → Prop} {E : Value → Pos → Shared → Prop} {p : Pos} {s : Shared} (hΓ : Ok n hd Γ) (hn : n < 90) (hl : s.heap.NoLimit)
    (h : Q () p s) : Sem.wp M Γ enterFrame Q E p s := by
  obtain ⟨mc, hns, hnone⟩ := hl
  have hc : cnt ((Γ.code, p) :: Γ.below) + 300 < 1000 := by
    have := cnt_cons Γ.code p Γ.below
    have := hΓ.count
    omega
  have hsum : ((((Γ.code, p) :: Γ.below).map (·.1)).map (·.frames)).sum + ((((Γ.code, p) :: Γ.below).map (·.1)).filter Code.isCreation).length + 300 < 1000 := hc
  have hr : recursionLimit = 1000 := rfl
  have hlt : ¬ ((((Γ.code, p) :: Γ.below).map (·.1)).map (·.frames)).sum ≥ recursionLimit := by omega
  have hlt' : ¬ ((((Γ.code, p) :: Γ.below).map (·.1)).map (·.frames)).sum + ((((Γ.code, p) :: Γ.below).map (·.1)).filter Code.isCreation).length ≥ recursionLimit := by omega
  have hnear : nearTheLimitUnderAClaim (((Γ.code, p) :: Γ.below).map (·.1)) (((((Γ.code, p) :: Γ.below).map (·.1)).map (·.frames)).sum + ((((Γ.code, p) :: Γ.below).map (·.1)).filter Code.isCreation).length) recursionLimit = false := by
    rw [near_is, Bool.and_eq_false_iff]
    left
    refine decide_eq_false ?_
    have : claimMargin = 300 := rfl
    omega
  simp only [enterFrame, currentRecursionLimit, Sem.wp_bind']
  show Sem.wp M Γ (nsGet cStatics "sys.recursionlimit") _ _ p s
  rw [Sem.wp_nsGet M Γ _ p s hns, hnone]
  show Sem.wp M Γ (if nearTheLimitUnderAClaim (((Γ.code, p) :: Γ.below).map (·.1)) (((((Γ.code, p) :: Γ.below).map (·.1)).map (·.frames)).sum + ((((Γ.code, p) :: Γ.below).map (·.1)).filter Code.isCreation).length) recursionLimit = true then _ else _) _ _ p s
  rw [if_neg (by rw [hnear]; exact Bool.false_ne_true)]
  show Sem.wp M Γ (if ((((Γ.code, p) :: Γ.below).map (·.1)).map (·.frames)).sum ≥ recursionLimit then _ else _) _ _ p s
  rw [if_neg hlt]
  show Sem.wp M Γ (if ((((Γ.code, p) :: Γ.below).map (·.1)).map (·.frames)).sum + ((((Γ.code, p) :: Γ.below).map (·.1)).filter Code.isCreation).length ≥ recursionLimit then _ else _) _ _ p s
  rw [if_neg hlt']; exact h

theorem wp_room {M : Model} {n : Nat} {hd : Option Value} {Γ : Ctx} {Q : Unit → Pos → Shared → Prop} {E : Value → Pos → Shared → Prop} {p : Pos} {s : Shared} {what : String} (hΓ : Ok n hd Γ) (hn : n < 90)
    (h : Q () p s) : Sem.wp M Γ (cRoom what) Q E p s := by
  unfold cRoom
  simp only [Sem.wp_bind']
  show Sem.wp M Γ (if (((Γ.code, p) :: Γ.below).map (·.1.cUnits)).sum ≥ cLine then _ else _) Q E p s
  rw [if_neg]
  · exact h
  · show ¬ unitsOf ((Γ.code, p) :: Γ.below) ≥ cLine
    rw [unitsOf_cons]
    have := cUnits_le Γ.code
    have := hΓ.units
    have : cLine = 9900 := rfl
    omega

/-! ### what is to come -/
inductive TK where
  | base (W : Ctx → Prop) (R : Result → Shared → Prop)
  | ret (n : Nat) (hd : Option Value) (k : Result → Sem Fin) (κ : TK)
/-- what is known of the stack where nothing is pending -/
noncomputable def TK.W : TK → Ctx → Prop
  | .base W _ => W
  | .ret .. => fun _ => True
noncomputable def TK.Inv (κ : TK) : Prop := ∀ Γ c, κ.W Γ → κ.W (Γ.goto c)
/-- where a code may follow another in place -/
noncomputable def TK.Fit (ag : Bool) : TK → Prop
  | .base W _ => ag = true → ∀ (Γ : Ctx) c, W Γ → W (Γ.goto c)
  | .ret _ _ _ κ => κ.Fit ag
noncomputable def Post (M : Model) : TK → Result → Shared → Prop
  | .base _ R => R
  | .ret n hd k κ => fun r s => ∀ Γ p, Ok n hd Γ → κ.W Γ → Sem.wp M Γ (k r) (Sem.finPost M Γ (Post M κ)) (fun e _ s' => Post M κ (.error e) s') p s
noncomputable def Good (M : Model) (n : Nat) (hd : Option Value) (κ : TK) (t : Sem Fin) (s : Shared) : Prop :=
  ∀ Γ p, Ok n hd Γ → κ.W Γ → Sem.wp M Γ t (Sem.finPost M Γ (Post M κ)) (fun e _ s' => Post M κ (.error e) s') p s
/-- a call's code, under its own context -/
noncomputable def GoodC (M : Model) (n : Nat) (hd : Option Value) (κ : TK) (c : Code) (s : Shared) : Prop :=
  ∀ Γ p, Ok n hd Γ → κ.W Γ → Γ.code = c → wpCode M Γ (Post M κ) p s

section
variable {M : Model} {n : Nat} {hd : Option Value} {κ : TK} {s : Shared}
theorem good_done {f : Flow} (h : Post M κ (.ok f) s) : Good M n hd κ (.pure (.done f)) s := fun _ _ _ _ => h
theorem good_raise {e : Value} (h : Post M κ (.error e) s) : Good M n hd κ (.raise e) s := fun _ _ _ _ => h
theorem good_code {c : Code} (h : Good M n hd κ (M.den c) s) : GoodC M n hd κ c s := fun Γ p hΓ hW hc => by
  rw [wpCode_iff_wp, hc]
  exact h Γ p hΓ hW
theorem good_again {c : Code} (hI : κ.Inv) (q : c.quiet = true) (h : GoodC M n hd κ c s) : Good M n hd κ (.pure (.again c)) s := fun Γ p hΓ hW =>
  ⟨q, h (Γ.goto c) p (hΓ.goto c) (hI Γ c hW) rfl⟩
theorem good_call {c : Code} {h hd' : Option Value} {g : Bool} {l : List Value} {k : Result → Sem Fin} (e : markQ h hd = some hd') (H : GoodC M (n + 1) hd' (.ret n hd k κ) c s) : Good M n hd κ (.call c h g l k) s := fun Γ p hΓ hW => by
  rw [Sem.wp_call]
  refine wpCode_mono (fun r s' hr => hr Γ p hΓ hW) (H (Γ.enter c h p) p (hΓ.enter c p e) trivial rfl)
theorem good_rule {tag : String} {k : Unit → Sem Fin} (h : Good M n hd κ (k ()) s) : Good M n hd κ (.rule tag k) s := fun Γ p hΓ hW => by rw [Sem.wp_rule]; exact h Γ p hΓ hW
theorem good_at {q : Pos} {k : Unit → Sem Fin} (h : Good M n hd κ (k ()) s) : Good M n hd κ (.at q k) s := fun Γ p hΓ hW => by rw [Sem.wp_at]; exact h Γ q hΓ hW
theorem good_point {l : List Value} {k : Unit → Sem Fin} (h : Good M n hd κ (k ()) s) : Good M n hd κ (.point l k) s := fun Γ p hΓ hW => by rw [Sem.wp_point]; exact h Γ p hΓ hW
theorem good_ask {k : Setting → Sem Fin} (h : Good M n hd κ (k ⟨M.prog, M.w.params⟩) s) : Good M n hd κ (.ask k) s := fun Γ p hΓ hW => by rw [Sem.wp_ask]; exact h Γ p hΓ hW
theorem good_load {a : Addr} {q : Option Value} {k : Obj → Sem Fin} {o : Obj} (e : s.heap.get? a = some o) (h : Good M n hd κ (k o) s) : Good M n hd κ (.load a q k) s := fun Γ p hΓ hW => by
  rw [Sem.wp_load]; exact ⟨o, e, h Γ p hΓ hW⟩
theorem good_alive {a : Addr} {k : Option Obj → Sem Fin} {o : Obj} (e : s.heap.get? a = some o) (h : Good M n hd κ (k (some o)) s) : Good M n hd κ (.loadIfAlive a k) s := fun Γ p hΓ hW => by
  rw [Sem.wp_loadIfAlive, e]; exact h Γ p hΓ hW
theorem good_update {a : Addr} {q : Option Value} {f : Obj → Obj} {k : Unit → Sem Fin} {o : Obj} (e : s.heap.get? a = some o) (h : Good M n hd κ (k ()) { s with heap := s.heap.update a f }) : Good M n hd κ (.update a q f k) s := fun Γ p hΓ hW => by
  rw [Sem.wp_update]; exact ⟨by rw [e]; rfl, h Γ p hΓ hW⟩
theorem good_alloc {o : Obj} {k : Addr → Sem Fin} (h : Good M n hd κ (k s.heap.objs.size) { s with heap := s.heap.push o }) : Good M n hd κ (.alloc o k) s := fun Γ p hΓ hW => by
  rw [Sem.wp_alloc]; exact h Γ p hΓ hW
theorem good_fresh {k : Tok → Sem Fin} (h : Good M n hd κ (k s.toks) { s with toks := s.toks + 1 }) : Good M n hd κ (.fresh k) s := fun Γ p hΓ hW => by
  rw [Sem.wp_fresh]; exact h Γ p hΓ hW
theorem good_handled {k : Option Value → Sem Fin} (h : Good M n hd κ (k hd) s) : Good M n hd κ (.handled false k) s := fun Γ p hΓ hW => by
  rw [Sem.wp_handled]
  show Sem.wp M Γ (k Γ.handled) _ _ p s
  rw [hΓ.handled]; exact h Γ p hΓ hW
end
end Mine
end
section
set_option maxRecDepth 100000
namespace Mine
open PySem PySem.W PySem.W.X

/-! ### a tree that may stand for another where there is room on the stack -/
noncomputable def Rl {α : Type} (t t' : Sem α) : Prop := ∀ (M : Model) (n : Nat) (hd : Option Value) (Γ : Ctx) (Q : α → Pos → Shared → Prop) (E : Value → Pos → Shared → Prop) (p : Pos) (s : Shared),
  Ok n hd Γ → n < 90 → Sem.wp M Γ t' Q E p s → Sem.wp M Γ t Q E p s
section
variable {α β : Type}
theorem Rl.refl (t : Sem α) : Rl t t := fun _ _ _ _ _ _ _ _ _ _ h => h
theorem Rl.of_eq {t t' : Sem α} (h : t = t') : Rl t t' := h ▸ Rl.refl t
theorem Rl.trans {t u v : Sem α} (h : Rl t u) (k : Rl u v) : Rl t v := fun M n hd Γ Q E p s o l w => h M n hd Γ Q E p s o l (k M n hd Γ Q E p s o l w)
theorem Rl.bind {m m' : Sem α} {f f' : α → Sem β} (h : Rl m m') (k : ∀ x, Rl (f x) (f' x)) : Rl (m.bind f) (m'.bind f') := fun M n hd Γ Q E p s o l w => by
  rw [Sem.wp_bind] at w ⊢
  exact h M n hd Γ _ _ p s o l (Sem.wp_mono M Γ m' (fun x p' s' => k x M n hd Γ Q E p' s' o l) (fun _ _ _ z => z) p s w)
theorem Rl.onRaise {m m' : Sem α} (h : Rl m m') (f : Value → Sem Unit) : Rl (m.onRaise f) (m'.onRaise f) := fun M n hd Γ Q E p s o l w => by
  rw [Sem.wp_onRaise] at w ⊢
  exact h M n hd Γ _ _ p s o l w
theorem Rl.holding {m m' : Sem α} (h : Rl m m') (vs : List Value) : Rl (holding vs m) (holding vs m') := fun M n hd Γ Q E p s o l w => by
  rw [Sem.wp_holding] at w ⊢
  exact h M n hd Γ _ _ p s o l w
end

/-- the room test taken away from the front -/
noncomputable def unroom {α : Type} : Sem α → Sem α
  | .stack k => k []
  | t => t
noncomputable def eqOp : CmpOp → Bool
  | .Eq => true
  | .NotEq => true
  | _ => false
noncomputable def refTwo (a b : Value) : Bool := match a with
  | .ref _ => true
  | _ => match b with
    | .ref _ => true
    | _ => false
theorem keep_stack {α : Type} (vs : List Value) (k : List (Code × Pos) → Sem α) : (Sem.stack k).keep vs = .stack fun x => (k x).keep vs := rfl

theorem wp_room_of {α : Type} {M : Model} {n : Nat} {hd : Option Value} {Γ : Ctx} {p : Pos} {s : Shared} {what : String} {f : Unit → Sem α} {Q : α → Pos → Shared → Prop} {E : Value → Pos → Shared → Prop} (hΓ : Ok n hd Γ) (hn : n < 90)
    (h : Sem.wp M Γ (f ()) Q E p s) : Sem.wp M Γ ((cRoom what).bind f) Q E p s := by
  rw [Sem.wp_bind]; exact wp_room hΓ hn h
theorem unroom_room {α : Type} (what : String) (vs : List Value) (f : Unit → Sem α) : unroom (((cRoom what).bind f).keep vs) = (f ()).keep vs := rfl

theorem rl_room {α : Type} (what : String) (a b : Value) (hab : refTwo a b = true) (f : Unit → Sem α) :
    Rl (holding [a, b] ((cRoomFor what [a, b]).bind f)) (unroom (holding [a, b] ((cRoomFor what [a, b]).bind f))) := by
  intro M n hd Γ Q E p s o l w
  have key : ∃ vs, holding [a, b] ((cRoomFor what [a, b]).bind f) = ((cRoom what).bind f).keep vs := by
    cases a with
    | ref x => cases b <;> exact ⟨_, rfl⟩
    | _ => cases b <;> first | (cases hab; done) | exact ⟨_, rfl⟩
  obtain ⟨vs, e⟩ := key
  rw [e] at w ⊢
  rw [unroom_room, Sem.wp_keep] at w
  rw [Sem.wp_keep]
  exact wp_room_of o l w

noncomputable def cmpF : CmpOp → Value → Value → Sem Value := Fast.tw12886488535604756494
theorem cmpF_eq : cmpF = compareOp := by unfold cmpF; rw [← Fast.te12886488535604756494]
noncomputable def compareR (op : CmpOp) (a b : Value) : Sem Value := match refTwo a b with
  | true => unroom (cmpF op a b)
  | false => cmpF op a b
theorem rl_compare {op : CmpOp} (h : eqOp op = true) (a b : Value) : Rl (compareOp op a b) (compareR op a b) := by
  unfold compareR
  rw [cmpF_eq]
  cases hab : refTwo a b with
  | false => exact Rl.refl _
  | true =>
    have e : compareOp op a b = richCompare op a b := by cases op <;> first | rfl | cases h
    dsimp only
    rw [e]
    unfold richCompare
    exact rl_room _ a b hab _

noncomputable def holdF {α : Type} : List Value → Sem α → Sem α := Fast.tw17359229931016689406
theorem holdF_eq {α : Type} : @holdF α = @holding α := by unfold holdF; rw [← Fast.te17359229931016689406]
noncomputable def operF : List Value → Sem Value → Sem Value := Fast.tw8004119333741010377
theorem operF_eq : operF = operate := by unfold operF; rw [← Fast.te8004119333741010377]
noncomputable def evalF : PySem.Expr → Env → Sem Value := Fast.tw14044960220447912780
theorem evalF_eq : evalF = eval := by unfold evalF; rw [← Fast.te14044960220447912780]
noncomputable def trueF : PySem.Expr → Env → Sem Value → Sem Bool := Fast.tw15418851999007992765
theorem trueF_eq : trueF = PySem.isTrue := by unfold trueF; rw [← Fast.te15418851999007992765]
noncomputable def truthF : Value → Sem Bool := Fast.tw15245631507167962100
theorem truthF_eq : truthF = truthy := by unfold truthF; rw [← Fast.te15245631507167962100]
noncomputable def execsF : List Stmt → Env → Sem Flow := Fast.tw12563942051412417395
theorem execsF_eq : execsF = execs := by unfold execsF; rw [← Fast.te12563942051412417395]
noncomputable def assignF : PySem.Expr → Env → Value → Sem Unit := Fast.tw17772580674575903948
theorem assignF_eq : assignF = assign := by unfold assignF; rw [← Fast.te17772580674575903948]
noncomputable def leavF : Env → Value → Sem Unit := Fast.tw9442747609961115081
theorem leavF_eq : leavF = leaving := by unfold leavF; rw [← Fast.te9442747609961115081]
noncomputable def noteF : Value → Env → Sem Unit := Fast.tw17872113653443481271
theorem noteF_eq : noteF = noteFrame := by unfold noteF; rw [← Fast.te17872113653443481271]
noncomputable def lotF : Value → Sem Unit := Fast.tw1623429502029203251
theorem lotF_eq : lotF = theTreesLotGoes := by unfold lotF; rw [← Fast.te1623429502029203251]
noncomputable def bnd {α β : Type} : Sem α → (α → Sem β) → Sem β := R.bindR
theorem bnd_eq {α β : Type} : @bnd α β = @Sem.bind α β := by unfold bnd; rw [← R.bindR_eq]
noncomputable def onR {α : Type} : Sem α → (Value → Sem Unit) → Sem α := R.onRaiseR
theorem onR_eq {α : Type} : @onR α = @Sem.onRaise α := by unfold onR; rw [← R.onRaiseR_eq]
noncomputable def ownF (c : Code) (env : Env) (h : Option Value) : Sem Flow := Fast.tw9046067596548197636 c env h
theorem ownF_eq (c : Code) (env : Env) (h : Option Value) : ownF c env h = runOwn c env h := by unfold ownF; rw [← Fast.te9046067596548197636]

/-- one comparison by == or != -/
noncomputable def oneR (l r : Sem Value) (op : CmpOp) (pos : Pos) : Sem Value :=
  bnd l fun a => bnd (holdF [a] r) fun b => bnd (standAt pos) fun _ => operF [a, b] (compareR op a b)
theorem rl_one {op : CmpOp} (h : eqOp op = true) (l r : Sem Value) (pos : Pos) :
    Rl (l.bind fun a => (holding [a] r).bind fun b => (standAt pos).bind fun _ => operate [a, b] (compareOp op a b)) (oneR l r op pos) := by
  unfold oneR
  simp only [bnd_eq, holdF_eq, operF_eq]
  refine Rl.bind (Rl.refl _) fun a => Rl.bind (Rl.refl _) fun b => Rl.bind (Rl.refl _) fun _ => ?_
  intro M n hd Γ Q E p s o k w
  rw [Sem.wp_operate] at w ⊢
  exact rl_compare h a b M n hd Γ Q E p s o k w
theorem marks_no {op : CmpOp} (h : eqOp op = true) (e : PySem.Expr) (t : Sem Value) : markedBehindIn op e t = t := by
  refine markedBehindIn_of_false ?_
  unfold behindInMarks
  cases op <;> first | rfl | (cases h; done) | (cases e <;> first | rfl | (show (_ && false && _) = false; simp))

noncomputable def evalR (e : PySem.Expr) (env : Env) : Sem Value := match e with
  | .Compare left ops comps pos => match ops, comps with
    | [op], [c] => match eqOp op with
      | true => oneR (evalF left env) (evalF c env) op pos
      | false => evalF e env
    | _, _ => evalF e env
  | _ => evalF e env
theorem rl_eval (e : PySem.Expr) (env : Env) : Rl (eval e env) (evalR e env) := by
  unfold evalR
  rw [evalF_eq]
  split
  · split
    · split
      · rename_i left pos _ _ op c _ h
        rw [eval_Compare1]
        have := rl_one h (eval left env) (eval c env) pos
        rw [marks_no h]
        exact this
      · exact Rl.refl _
    · exact Rl.refl _
  · exact Rl.refl _
noncomputable def valR (e : PySem.Expr) (env : Env) : Sem Value := match e with
  | .BoolOp op xs pos => match op, xs with
    | .And, [x, y] => bnd (evalR x env) fun v => bnd (standAt pos) fun _ => bnd (holdF [v] (truthF v)) fun t => match t with
      | false => .pure v
      | true => evalR y env
    | _, _ => evalF e env
  | _ => evalR e env
theorem rl_val (e : PySem.Expr) (env : Env) : Rl (eval e env) (valR e env) := by
  unfold valR
  split
  · split
    · rename_i pos _ _ x y
      simp only [bnd_eq, holdF_eq, truthF_eq]
      have e0 : eval (.BoolOp .And [x, y] pos) env = (eval x env).bind fun v => (standAt pos).bind fun _ => (holding [v] (truthy v)).bind fun t => match t with
        | false => .pure v
        | true => eval y env := by
        rw [arm_eval_BoolOp]
        show boolOp pos .And [eval x env, eval y env] = _
        unfold boolOp
        refine congrArg (Sem.bind (eval x env)) (funext fun v => congrArg (Sem.bind (standAt pos)) (funext fun _ => congrArg (Sem.bind (holding [v] (truthy v))) (funext fun t => ?_)))
        cases t <;> rfl
      rw [e0]
      refine Rl.bind (rl_eval x env) fun v => Rl.bind (Rl.refl _) fun _ => Rl.bind (Rl.refl _) fun t => ?_
      cases t
      · exact Rl.refl _
      · exact rl_eval y env
    · rw [evalF_eq]; exact Rl.refl _
  · exact rl_eval _ _
noncomputable def testR (e : PySem.Expr) (env : Env) : Sem Bool := match e with
  | .Compare left ops comps pos => match ops, comps with
    | [op], [c] => match eqOp op with
      | true => bnd (oneR (evalF left env) (evalF c env) op pos) fun v => holdF [v] (truthF v)
      | false => trueF e env (evalF e env)
    | _, _ => trueF e env (evalF e env)
  | _ => trueF e env (evalF e env)
theorem rl_test (e : PySem.Expr) (env : Env) : Rl (PySem.isTrue e env (eval e env)) (testR e env) := by
  unfold testR
  rw [evalF_eq, trueF_eq]
  split
  · split
    · split
      · rename_i left pos _ _ op c _ h
        rw [isTrue_Compare1, marks_no h]
        simp only [bnd_eq, holdF_eq, truthF_eq]
        have e1 : ((do let a ← eval left env; let b ← holding [a] (eval c env); standAt pos; let v ← operate [a, b] (compareOp op a b); holding [v] (truthy v) : Sem Bool)) =
          ((eval left env).bind fun a => (holding [a] (eval c env)).bind fun b => (standAt pos).bind fun _ => operate [a, b] (compareOp op a b)).bind fun v => holding [v] (truthy v) := by
          have assoc : ∀ {α β γ : Type} (m : Sem α) (f : α → Sem β) (g : β → Sem γ), (m.bind f).bind g = m.bind fun x => (f x).bind g := by
            intro α β γ m f g
            induction m <;> simp only [Sem.bind, *]
          simp only [assoc]
          rfl
        rw [e1]
        exact Rl.bind (rl_one h _ _ pos) fun v => Rl.refl _
      · exact Rl.refl _
    · exact Rl.refl _
  · exact Rl.refl _
noncomputable def execR (s : Stmt) (env : Env) : Sem Flow := match s with
  | .If test body orelse pos => bnd (standAt pos) fun _ => bnd (testR test env) fun b => match b with
    | true => execsF body env
    | false => execsF orelse env
  | .Return value pos => match value with
    | some e => bnd (standAt pos) fun _ => bnd (valR e env) fun v => .pure (.ret v)
    | none => execsF [s] env
  | .Assign targets value pos => match targets, value with
    | [.Attribute o attr tp], .Compare l ops comps cp => bnd (standAt pos) fun _ => bnd (evalR (.Compare l ops comps cp) env) fun v => bnd (assignF (.Attribute o attr tp) env v) fun _ => .pure .next
    | _, _ => execsF [s] env
  | _ => execsF [s] env
theorem rl_execs1 (s : Stmt) (env : Env) : Rl (exec s env) (execs [s] env) := by
  intro M n hd Γ Q E p sh o l w
  rw [execs_cons, Sem.wp_bind'] at w
  refine Sem.wp_mono M Γ (exec s env) (fun x p' s' z => ?_) (fun _ _ _ z => z) p sh w
  cases x <;> exact z
theorem rl_exec (s : Stmt) (env : Env) : Rl (exec s env) (execR s env) := by
  unfold execR
  rw [execsF_eq]
  split
  · rw [exec_If]
    simp only [bnd_eq]
    refine Rl.bind (Rl.refl _) fun _ => Rl.bind (rl_test _ _) fun b => ?_
    cases b <;> exact Rl.refl _
  · split
    · rw [exec_Return_some]
      simp only [bnd_eq]
      exact Rl.bind (Rl.refl _) fun _ => Rl.bind (rl_val _ _) fun v => Rl.refl _
    · exact rl_execs1 _ _
  · split
    · rename_i pos _ _ o attr tp l ops comps cp
      rw [exec_Assign_arm, assignF_eq]
      simp only [bnd_eq]
      refine Rl.bind (Rl.refl _) fun _ => ?_
      refine Rl.trans (u := (eval (.Compare l ops comps cp) env).bind fun v => (assign (.Attribute o attr tp) env v).bind fun _ => .pure .next) (Rl.of_eq rfl) ?_
      exact Rl.bind (rl_eval _ _) fun v => Rl.refl _
    · exact rl_execs1 _ _
  · exact rl_execs1 _ _
noncomputable def execsR : List Stmt → Env → Sem Flow
  | [], _ => .pure .next
  | s :: rest, env => bnd (execR s env) fun f => match f with
    | .next => execsR rest env
    | f => .pure f
theorem rl_execs (env : Env) : ∀ l : List Stmt, Rl (execs l env) (execsR l env)
  | [] => Rl.refl _
  | s :: rest => by
    rw [execs_cons, execsR]
    simp only [bnd_eq]
    refine Rl.bind (rl_exec s env) fun f => ?_
    cases f <;> first | exact rl_execs env rest | exact Rl.refl _

/-- the rest of a def's body -/
noncomputable def tailR (rest : List Stmt) (env : Env) : Sem Fin := bnd (onR (execsR rest env) (leavF env)) fun f => match f with
  | .ret v => .pure (.done (.ret v))
  | _ => .pure (.done (.ret .none))
noncomputable def whileR (test : PySem.Expr) (body orelse : List Stmt) (env : Env) : Sem Fin := onR (bnd (testR test env) fun b => match b with
  | true => bnd (execsF body env) fun f => match f with
    | .next => .pure (.again (.whileLoop test body orelse env))
    | .cont => .pure (.again (.whileLoop test body orelse env))
    | .brk => .pure (.done .next)
    | .ret v => .pure (.done (.ret v))
  | false => bnd (execsF orelse env) fun f => .pure (.done f)) (fun x => bnd (noteF x env) fun _ => lotF x)
theorem rl_while (test : PySem.Expr) (body orelse : List Stmt) (env : Env) : Rl (denote table (.whileLoop test body orelse env)) (whileR test body orelse env) := by
  unfold whileR
  simp only [onR_eq, bnd_eq, noteF_eq, lotF_eq, execsF_eq]
  show Rl ((whileTurn test body orelse env).onRaise _) _
  refine Rl.onRaise ?_ _
  unfold whileTurn
  refine Rl.bind (rl_test test env) fun b => ?_
  cases b
  · exact Rl.refl _
  · refine Rl.bind (Rl.refl _) fun f => ?_
    cases f <;> exact Rl.refl _
noncomputable def funcR (body : List Stmt) (env : Env) : Sem Fin := bnd point fun _ => tailR body env
theorem rl_func (body : List Stmt) (env : Env) : Rl (denote table (.func body env)) (funcR body env) := by
  unfold funcR tailR
  simp only [onR_eq, bnd_eq, leavF_eq]
  show Rl (point.bind fun _ => ((execs body env).onRaise (leaving env)).bind _) _
  refine Rl.bind (Rl.refl _) fun _ => Rl.bind (Rl.onRaise (rl_execs env body) _) fun f => ?_
  cases f <;> exact Rl.refl _
end Mine
end
section
set_option maxRecDepth 100000
namespace Mine
open PySem PySem.W PySem.W.X


/-! ### the call's own objects by a virtual index: a tree with gaps -/
noncomputable def putT : Nat → KT → Nat → Obj → KT
  | 0, t, _, _ => t
  | n + 1, t, i, o => match t with
    | .nil => match Nat.beq i 0 with
      | true => .node (some o) .nil .nil
      | false => match Nat.beq (i % 2) 1 with
        | true => .node none (putT n .nil (i / 2) o) .nil
        | false => .node none .nil (putT n .nil (i / 2 - 1) o)
    | .node v l r => match Nat.beq i 0 with
      | true => .node (some o) l r
      | false => match Nat.beq (i % 2) 1 with
        | true => .node v (putT n l (i / 2) o) r
        | false => .node v l (putT n r (i / 2 - 1) o)
theorem get_nil (i : Nat) : KT.nil.get i = none := rfl
theorem get_putT (o : Obj) : ∀ (n : Nat) (t : KT) (i : Nat), i < 2 ^ n → ∀ j, (putT (n + 1) t i o).get j = if j = i then some o else t.get j
  | n, t, i, hi, j => by
    have rec_ : ∀ t i', i' < 2 ^ (n - 1) → 0 < n → ∀ j, (putT n t i' o).get j = if j = i' then some o else t.get j := fun t i' h hn j => by
      cases n with
      | zero => exact absurd hn (Nat.lt_irrefl 0)
      | succ k => exact get_putT o k t i' h j
    have half : i ≠ 0 → 0 < n ∧ i / 2 < 2 ^ (n - 1) := fun h => by
      cases n with
      | zero => simp at hi; exact absurd hi h
      | succ k => refine ⟨Nat.succ_pos _, ?_⟩; rw [Nat.pow_succ] at hi; show i / 2 < 2 ^ k; omega
    cases t with
    | nil =>
      unfold putT
      rw [BT.beq_eq, BT.beq_eq]
      by_cases h0 : i = 0
      · subst h0
        simp only [decide_true]
        rw [KT.get_node]
        by_cases hj : j = 0
        · simp [hj]
        · by_cases p : j % 2 = 1 <;> simp [hj, p, get_nil]
      · rw [decide_eq_false h0]
        obtain ⟨hn, hh⟩ := half h0
        by_cases p : i % 2 = 1
        · simp only [p, decide_true]
          rw [KT.get_node]
          by_cases hj : j = 0
          · have : j ≠ i := fun e => h0 (e ▸ hj)
            simp [hj, get_nil, Ne.symm h0]
          · by_cases q : j % 2 = 1
            · simp only [hj, q, if_true, if_false, rec_ _ _ hh hn, get_nil]
              by_cases e : j = i
              · simp [e]
              · have : j / 2 ≠ i / 2 := by omega
                simp [e, this]
            · have : j ≠ i := fun e => q (e ▸ p)
              simp [hj, q, get_nil, this]
        · simp only [p, decide_false]
          rw [KT.get_node]
          by_cases hj : j = 0
          · simp [hj, get_nil, Ne.symm h0]
          · by_cases q : j % 2 = 1
            · have : j ≠ i := fun e => p (e ▸ q)
              simp [hj, q, get_nil, this]
            · simp only [hj, q, if_false, rec_ _ _ (show i / 2 - 1 < 2 ^ (n - 1) by omega) hn, get_nil]
              by_cases e : j = i
              · simp [e]
              · have : j / 2 - 1 ≠ i / 2 - 1 := by omega
                simp [e, this]
    | node v l r =>
      unfold putT
      rw [BT.beq_eq, BT.beq_eq]
      by_cases h0 : i = 0
      · subst h0
        simp only [decide_true]
        rw [KT.get_node, KT.get_node]
        by_cases hj : j = 0
        · simp [hj]
        · by_cases p : j % 2 = 1 <;> simp [hj, p]
      · rw [decide_eq_false h0]
        obtain ⟨hn, hh⟩ := half h0
        by_cases p : i % 2 = 1
        · simp only [p, decide_true]
          rw [KT.get_node, KT.get_node v l r]
          by_cases hj : j = 0
          · simp [hj, Ne.symm h0]
          · by_cases q : j % 2 = 1
            · simp only [hj, q, if_true, if_false, rec_ _ _ hh hn]
              by_cases e : j = i
              · simp [e]
              · have : j / 2 ≠ i / 2 := by omega
                simp [e, this]
            · have : j ≠ i := fun e => q (e ▸ p)
              simp [hj, q, this]
        · simp only [p, decide_false]
          rw [KT.get_node, KT.get_node v l r]
          by_cases hj : j = 0
          · simp [hj, Ne.symm h0]
          · by_cases q : j % 2 = 1
            · have : j ≠ i := fun e => p (e ▸ q)
              simp [hj, q, this]
            · simp only [hj, q, if_false, rec_ _ _ (show i / 2 - 1 < 2 ^ (n - 1) by omega) hn]
              by_cases e : j = i
              · simp [e]
              · have : j / 2 - 1 ≠ i / 2 - 1 := by omega
                simp [e, this]
termination_by n => n

/-! ### a def's call, its room set apart -/
noncomputable def pre (self : Addr) (fd : FuncData) (args : Args) : Sem Env :=
  let rest (compiled : Str) : Sem Env := (bindArgs fd args).bind fun bs => newFunctionEnv fd.scope fd.globals fd.closure bs (compiled ++ (".<locals>." : Str)) (some self) fd.code none fd.builtins
  match fd.code with
  | .none => rest fd.qualname
  | c => (field c 1).bind fun v => match v with
    | .str q _ => rest q
    | _ => rest fd.qualname
noncomputable def suf (fd : FuncData) (env : Env) : Sem Fin :=
  let code : Code := match fd.body with
    | .stmts b => .func b env
    | .expr e => .expr e env
  match fd.scope.isGenerator, fd.scope.isCoroutine with
  | false, false => again code
  | true, false => do ret (← newGenerator code fd.name fd.qualname)
  | false, true => do ret (← newCoroutine code fd.name fd.qualname)
  | true, true => do ret (← newAsyncGenerator code fd.name fd.qualname)
theorem sem_bind_assoc {α β γ : Type} (m : Sem α) (f : α → Sem β) (g : β → Sem γ) : (m.bind f).bind g = m.bind fun x => (f x).bind g := by
  induction m <;> simp only [Sem.bind, *]
theorem callFunction_eq (self : Addr) (fd : FuncData) (args : Args) : callFunction self fd args = (pre self fd args).bind fun env => enterFrame.bind fun _ => suf fd env := by
  unfold callFunction pre
  cases hc : fd.code <;> simp only [sem_bind_assoc] <;> first
    | rfl
    | (refine congrArg (Sem.bind (field _ 1)) (funext fun v => ?_)
       cases v <;> simp only [sem_bind_assoc] <;> rfl)

inductive Md where
  | nor (t : Sem Fin)
  | ent (m : Sem Env) (r : Env → Sem Fin)
noncomputable def Md.act : Md → Sem Fin
  | .nor t => t
  | .ent m r => m.bind fun env => enterFrame.bind fun _ => r env

/-- what a run asks to be equal: an address, an object, a code, a node -/
inductive It where
  | n (a : Nat)
  | o (x : Option Obj)
  | c (c : Code)
  | t (t : Sem Fin)

/-- a call taken as known: its code, the objects it finds, what it answers, what stands then, how many objects and tokens it makes -/
structure Use where
  code : Code
  m : Nat
  i : Nat
  ins : List (Nat × Obj)
  r : Result
  outs : List (Nat × Obj)
  d : Nat
  e : Nat
noncomputable def nthU : List Use → Nat → Option Use
  | [], _ => none
  | u :: _, 0 => some u
  | _ :: l, n + 1 => nthU l n
noncomputable def putL (R : KT) : List (Nat × Obj) → KT
  | [] => R
  | (j, o) :: l => putL (putT 17 R j o) l
noncomputable def idxOk : List (Nat × Obj) → Bool
  | [] => true
  | (j, _) :: l => match Nat.blt j 65536 with
    | true => idxOk l
    | false => false
noncomputable def insP (R : KT) (ps : List It) : List (Nat × Obj) → List It
  | [] => ps
  | (j, _) :: l => .o (R.get j) :: insP R ps l
noncomputable def insQ (qs : List It) : List (Nat × Obj) → List It
  | [] => qs
  | (_, o) :: l => .o (some o) :: insQ qs l
structure RV where
  prog : Program
  params : Params
  kt : KT
  den : Code → Sem Fin
  quiet : Code → Bool
  pre : Addr → FuncData → Args → Sem Env
  adr : Nat → Nat
  tok : Nat → Nat
  lim : Nat
  us : List Use
  ag : Bool

/-- may a code follow another in place here -/
noncomputable def agOk (b : Bool) : TK → Bool
  | .base .. => b
  | .ret .. => true
inductive Out where
  | stop (n a : Nat)
  | word (w : String)
  | res (κ : TK) (r : Result) (R : KT) (m i : Nat) (ps qs : List It)
  | at (n : Nat) (hd : Option Value) (κ : TK) (md : Md) (R : KT) (m i : Nat) (sc : List Nat) (ps qs : List It)

noncomputable abbrev RTy := Nat → Option Value → TK → Md → KT → Nat → Nat → List Nat → List It → List It → Out

noncomputable def retR (ih : RTy) (r : Result) (κ : TK) (R : KT) (m i : Nat) (sc : List Nat) (ps qs : List It) : Out := match κ with
  | .base W R₀ => .res (.base W R₀) r R m i ps qs
  | .ret n hd k κ => ih n hd κ (.nor (k r)) R m i sc ps qs

/-- a code that is no def of the text -/
noncomputable def plainR (V : RV) (ih : RTy) (n : Nat) (hd : Option Value) (κ : TK) (c : Code) (R : KT) (m i : Nat) (sc : List Nat) (ps qs : List It) : Out := match Nat.blt n 90 with
  | true => ih n hd κ (.nor (V.den c)) R m i sc ps qs
  | false => .stop 8 n
/-- entering a code: a def of the text is opened here -/
noncomputable def codeR (V : RV) (ih : RTy) (n : Nat) (hd : Option Value) (κ : TK) (c : Code) : KT → Nat → Nat → List Nat → List It → List It → Out := match c with
  | .call f args => match f with
    | .ref a => match V.kt.get a with
      | some o => match o.data with
        | .func fd => ih n hd κ (.ent (V.pre a fd args) (suf fd))
        | _ => plainR V ih n hd κ c
      | none => fun _ _ _ _ _ _ => .stop 1 a
    | _ => plainR V ih n hd κ c
  | _ => plainR V ih n hd κ c

/-- what stands at an address, as the script says: 0 an object of the top, j + 1 the call's own -/
noncomputable def lookR (V : RV) (a : Addr) (R : KT) (sc : List Nat) (ps qs : List It) (k : Obj → List Nat → List It → List It → Out) : Out := match sc with
  | [] => .stop 50 0
  | j :: sc => match j with
    | 0 => match V.kt.get a with
      | some o => k o sc ps qs
      | none => .stop 1 a
    | j + 1 => match R.get j with
      | some o => k o sc (.n a :: ps) (.n (V.adr j) :: qs)
      | none => .stop 2 j

noncomputable def allocR (V : RV) (o : Obj) (R : KT) (m : Nat) (k : KT → Out) : Out := match o.isFreed with
  | true => .stop 3 0
  | false => match Nat.blt m 65536 with
    | true => k (putT 17 R m o)
    | false => .stop 4 m
noncomputable def updateR (V : RV) (a : Addr) (f : Obj → Obj) (R : KT) (sc : List Nat) (ps qs : List It) (k : KT → List Nat → List It → List It → Out) : Out := match sc with
  | [] => .stop 50 1
  | j :: sc => match j with
    | 0 => .stop 5 a
    | j + 1 => match R.get j with
      | some o => match (f o).isFreed with
        | true => .stop 6 j
        | false => match Nat.blt j 65536 with
          | true => k (putT 17 R j (f o)) sc (.n a :: ps) (.n (V.adr j) :: qs)
          | false => .stop 4 j
      | none => .stop 2 j

noncomputable def stepR (V : RV) (ih : RTy) (n : Nat) (hd : Option Value) (κ : TK) (t : Sem Fin) (R : KT) (m i : Nat) (sc : List Nat) (ps qs : List It) : Out := match t with
  | .pure fin => match fin with
    | .done f => retR ih (.ok f) κ R m i sc ps qs
    | .again c => match V.quiet c with
      | true => match agOk V.ag κ with
        | true => codeR V ih n hd κ c R m i sc ps qs
        | false => .stop 61 0
      | false => .stop 7 0
  | .raise e => retR ih (.error e) κ R m i sc ps qs
  | .rule _ k => ih n hd κ (.nor (k ())) R m i sc ps qs
  | .at _ k => ih n hd κ (.nor (k ())) R m i sc ps qs
  | .point _ k => ih n hd κ (.nor (k ())) R m i sc ps qs
  | .ask k => ih n hd κ (.nor (k ⟨V.prog, V.params⟩)) R m i sc ps qs
  | .load a _ k => lookR V a R sc ps qs fun o sc ps qs => ih n hd κ (.nor (k o)) R m i sc ps qs
  | .loadIfAlive a k => lookR V a R sc ps qs fun o sc ps qs => ih n hd κ (.nor (k (some o))) R m i sc ps qs
  | .alloc o k => allocR V o R m fun R => ih n hd κ (.nor (k (V.adr m))) R (m + 1) i sc ps qs
  | .update a _ f k => updateR V a f R sc ps qs fun R sc ps qs => ih n hd κ (.nor (k ())) R m i sc ps qs
  | .fresh k => ih n hd κ (.nor (k (V.tok i))) R m (i + 1) sc ps qs
  | .handled own k => match own with
    | false => ih n hd κ (.nor (k hd)) R m i sc ps qs
    | true => .stop 9 0
  | .call c h _ _ k => match sc with
    | [] => .stop 50 2
    | e :: sc => match e with
      | 0 => match markQ h hd with
        | some hd' => codeR V ih (n + 1) hd' (.ret n hd k κ) c R m i sc ps qs
        | none => .stop 10 0
      | e + 1 => match h with
        | none => match hd with
          | none => match Nat.blt n V.lim with
            | true => match nthU V.us e with
              | some u => match Nat.beq u.m m with
                | true => match Nat.beq u.i i with
                  | true => match idxOk u.outs with
                    | true => ih n none κ (.nor (k u.r)) (putL R u.outs) (m + u.d) (i + u.e) sc (.c c :: insP R ps u.ins) (.c u.code :: insQ qs u.ins)
                    | false => .stop 15 e
                  | false => .stop 16 i
                | false => .stop 17 m
              | none => .stop 11 e
            | false => .stop 8 n
          | some _ => .stop 12 0
        | some _ => .stop 12 1
  | .unsupported w => .word w
  | _ => .stop 30 0
noncomputable def stepE (V : RV) (ih : RTy) (n : Nat) (hd : Option Value) (κ : TK) (t : Sem Env) (r : Env → Sem Fin) (R : KT) (m i : Nat) (sc : List Nat) (ps qs : List It) : Out := match t with
  | .pure env => match Nat.blt n 90 with
    | true => ih n hd κ (.nor (r env)) R m i sc ps qs
    | false => .stop 8 n
  | .rule _ k => ih n hd κ (.ent (k ()) r) R m i sc ps qs
  | .at _ k => ih n hd κ (.ent (k ()) r) R m i sc ps qs
  | .point _ k => ih n hd κ (.ent (k ()) r) R m i sc ps qs
  | .ask k => ih n hd κ (.ent (k ⟨V.prog, V.params⟩) r) R m i sc ps qs
  | .load a _ k => lookR V a R sc ps qs fun o sc ps qs => ih n hd κ (.ent (k o) r) R m i sc ps qs
  | .loadIfAlive a k => lookR V a R sc ps qs fun o sc ps qs => ih n hd κ (.ent (k (some o)) r) R m i sc ps qs
  | .alloc o k => allocR V o R m fun R => ih n hd κ (.ent (k (V.adr m)) r) R (m + 1) i sc ps qs
  | .update a _ f k => updateR V a f R sc ps qs fun R sc ps qs => ih n hd κ (.ent (k ()) r) R m i sc ps qs
  | .fresh k => ih n hd κ (.ent (k (V.tok i)) r) R m (i + 1) sc ps qs
  | .unsupported w => .word w
  | _ => .stop 31 0
noncomputable def runR (V : RV) : Nat → RTy
  | 0 => .at
  | N + 1 => fun n hd κ md => match md with
    | .nor t => stepR V (runR V N) n hd κ t
    | .ent m r => stepE V (runR V N) n hd κ m r
end Mine
end
section
set_option maxRecDepth 100000
namespace Mine
open PySem PySem.W PySem.W.X

/-- what a run stands upon -/
structure VC where
  V : RV
  M : Model
  K : Addr → Option Obj
  dr : Drawn
  os : OsState
  m₀ : Nat
  i₀ : Nat

/-- the ledger: what is kept, and the call's own objects -/
structure Rep (C : VC) (s : Shared) (R : KT) (m i : Nat) : Prop where
  gens : s.gens = #[]
  drawn : s.drawn = C.dr
  os : s.os = C.os
  keep : ∀ b o, C.K b = some o → s.heap.get? b = some o
  size : s.heap.objs.size = C.V.adr m
  toks : s.toks = C.V.tok i
  hm : C.m₀ ≤ m
  hi : C.i₀ ≤ i
  own : ∀ j o, R.get j = some o → C.K (C.V.adr j) = none ∧ s.heap.get? (C.V.adr j) = some o
  inj : ∀ j k, (R.get j).isSome = true → (R.get k).isSome = true → C.V.adr j = C.V.adr k → j = k

structure VOk (C : VC) : Prop where
  den : ∀ c, Rl (C.M.den c) (C.V.den c)
  quiet : ∀ c, C.V.quiet c = true → c.quiet = true
  pre : C.V.pre = pre
  prog : C.V.prog = C.M.prog
  params : C.V.params = C.M.w.params
  kt : ∀ a o, C.V.kt.get a = some o → C.K a = some o
  nolimit : ∀ h : Heap, (∀ b o, C.K b = some o → h.get? b = some o) → h.NoLimit
  table : C.M.den = denote table
  adr : ∀ j, C.m₀ ≤ j → C.V.adr (j + 1) = C.V.adr j + 1
  tok : ∀ j, C.i₀ ≤ j → C.V.tok (j + 1) = C.V.tok j + 1

noncomputable def UsesOk (C : VC) : Prop := ∀ u ∈ C.V.us, idxOk u.outs = true → ∀ s R, Rep C s R u.m u.i → (∀ p ∈ u.ins, R.get p.1 = some p.2) → ∀ n κ, n < C.V.lim →
  (∀ s', Rep C s' (putL R u.outs) (u.m + u.d) (u.i + u.e) → Post C.M κ u.r s') → GoodC C.M (n + 1) none κ u.code s
theorem nthU_mem : ∀ {l : List Use} {n : Nat} {u : Use}, nthU l n = some u → u ∈ l
  | [], _, _, h => by cases h
  | _ :: _, 0, _, h => by cases h; exact List.mem_cons_self
  | _ :: _, _ + 1, _, h => List.mem_cons_of_mem _ (nthU_mem h)
theorem ins_eq {R : KT} {ps qs : List It} : ∀ {l : List (Nat × Obj)}, insP R ps l = insQ qs l → ps = qs ∧ ∀ p ∈ l, R.get p.1 = some p.2
  | [], h => ⟨h, fun _ h => (nomatch h)⟩
  | (j, o) :: l, h => by
    unfold insP insQ at h
    injection h with h1 h2
    injection h1 with h1
    obtain ⟨h3, h4⟩ := ins_eq h2
    refine ⟨h3, fun p hp => ?_⟩
    rcases List.mem_cons.mp hp with rfl | hp
    · exact h1
    · exact h4 p hp

noncomputable def Out.fair : Out → Prop
  | .res _ _ _ _ _ ps qs => ps = qs
  | .at _ _ _ _ _ _ _ _ ps qs => ps = qs
  | _ => False
noncomputable def Out.Next (C : VC) : Out → Prop
  | .res κ r R m i _ _ => ∀ s, Rep C s R m i → Post C.M κ r s
  | .at n hd κ md R m i _ _ _ => ∀ s, Rep C s R m i → Good C.M n hd κ md.act s
  | _ => False

section
variable {C : VC}
theorem Rep.old (O : VOk C) {s : Shared} {R : KT} {m i : Nat} (D : Rep C s R m i) {a : Addr} {o : Obj} (e : C.V.kt.get a = some o) : s.heap.get? a = some o := D.keep a o (O.kt a o e)
theorem Rep.alloc (O : VOk C) {s : Shared} {R : KT} {m i : Nat} (D : Rep C s R m i) {o : Obj} (hf : o.isFreed = false) (hg : m < 65536) : Rep C { s with heap := s.heap.push o } (putT 17 R m o) (m + 1) i := by
  have ea := O.adr m D.hm
  have lt : ∀ j, (R.get j).isSome = true → C.V.adr j < C.V.adr m := fun j hj => by
    obtain ⟨o', eo⟩ := Option.isSome_iff_exists.mp hj
    rw [← D.size]; exact Heap.lt_size (D.own j o' eo).2
  refine ⟨D.gens, D.drawn, D.os, fun b o' e => Heap.get?_push_of_some _ (D.keep b o' e), ?_, D.toks, Nat.le_succ_of_le D.hm, D.hi, fun j o' e => ?_, fun j k hj hk e => ?_⟩
  · show (s.heap.push o).objs.size = _
    rw [Heap.size_push, D.size, ea]
  · rw [get_putT o 16 R m hg] at e
    by_cases hj : j = m
    · subst hj
      rw [if_pos rfl] at e
      cases e
      refine ⟨?_, ?_⟩
      · cases h : C.K (C.V.adr j) with
        | none => rfl
        | some o' =>
          have := Heap.lt_size (D.keep _ o' h)
          rw [D.size] at this
          exact absurd this (Nat.lt_irrefl _)
      · show (s.heap.push o).get? _ = _
        rw [← D.size]; exact Heap.get?_push_size _ hf
    · rw [if_neg hj] at e
      have z := D.own j o' e
      exact ⟨z.1, Heap.get?_push_of_some _ z.2⟩
  · rw [get_putT o 16 R m hg] at hj hk
    by_cases h1 : j = m
    · by_cases h2 : k = m
      · rw [h1, h2]
      · rw [if_neg h2] at hk
        have := lt k hk
        rw [h1] at e
        omega
    · rw [if_neg h1] at hj
      have := lt j hj
      by_cases h2 : k = m
      · rw [h2] at e; omega
      · rw [if_neg h2] at hk
        exact D.inj j k hj hk e
theorem Rep.update {s : Shared} {R : KT} {m i j : Nat} (D : Rep C s R m i) {o : Obj} {f : Obj → Obj} (e : R.get j = some o) (hf : (f o).isFreed = false) (hj : j < 65536) : Rep C { s with heap := s.heap.update (C.V.adr j) f } (putT 17 R j (f o)) m i := by
  have z := D.own j o e
  have hs : Heap.SameBut (C.V.adr j) s.heap (s.heap.update (C.V.adr j) f) := Heap.SameBut.update ..
  refine ⟨D.gens, D.drawn, D.os, fun b o' e' => ?_, ?_, D.toks, D.hm, D.hi, fun k o' e' => ?_, fun k l hk hl e' => ?_⟩
  · refine (hs.2 b ?_).trans (D.keep b o' e')
    intro q
    rw [q, z.1] at e'
    cases e'
  · show (s.heap.update _ f).objs.size = _
    rw [hs.1, D.size]
  · rw [get_putT _ 16 R j hj] at e'
    by_cases h : k = j
    · subst h
      rw [if_pos rfl] at e'
      cases e'
      refine ⟨z.1, ?_⟩
      first | exact Heap.get?_update_self f z.2 hf | exact Heap.get?_update_self _ z.2 hf
    · rw [if_neg h] at e'
      have y := D.own k o' e'
      refine ⟨y.1, (hs.2 _ fun q => h ?_).trans y.2⟩
      exact D.inj k j (by rw [e']; rfl) (by rw [e]; rfl) q
  · refine D.inj k l ?_ ?_ e'
    · rw [get_putT _ 16 R j hj] at hk
      by_cases h : k = j
      · subst h; rw [e]; rfl
      · rw [if_neg h] at hk; exact hk
    · rw [get_putT _ 16 R j hj] at hl
      by_cases h : l = j
      · subst h; rw [e]; rfl
      · rw [if_neg h] at hl; exact hl
theorem Rep.fresh (O : VOk C) {s : Shared} {R : KT} {m i : Nat} (D : Rep C s R m i) : Rep C { s with toks := s.toks + 1 } R m (i + 1) :=
  ⟨D.gens, D.drawn, D.os, D.keep, D.size, by show s.toks + 1 = _; rw [D.toks, O.tok i D.hi], D.hm, Nat.le_succ_of_le D.hi, D.own, D.inj⟩

theorem lookR_sound (O : VOk C) {a : Addr} {R : KT} {sc : List Nat} {ps qs : List It} {k : Obj → List Nat → List It → List It → Out} (hf : (lookR C.V a R sc ps qs k).fair) (hk : ∀ o sc ps qs, (k o sc ps qs).fair → ps = qs) :
    ps = qs ∧ ∃ o sc' ps' qs', lookR C.V a R sc ps qs k = k o sc' ps' qs' ∧ ∀ s m i, Rep C s R m i → s.heap.get? a = some o := by
  unfold lookR at hf ⊢
  cases sc with
  | nil => cases hf
  | cons j sc =>
    cases j with
    | zero =>
      dsimp only at hf ⊢
      cases e : C.V.kt.get a with
      | none => rw [e] at hf; cases hf
      | some o =>
        rw [e] at hf
        dsimp only at hf ⊢
        exact ⟨hk _ _ _ _ hf, o, sc, ps, qs, rfl, fun s m i D => D.old O e⟩
    | succ j =>
      dsimp only at hf ⊢
      cases e : R.get j with
      | none => rw [e] at hf; cases hf
      | some o =>
        rw [e] at hf
        dsimp only at hf ⊢
        have h := hk _ _ _ _ hf
        injection h with h1 h2
        injection h1 with h1
        exact ⟨h2, o, sc, _, _, rfl, fun s m i D => h1 ▸ (D.own _ o e).2⟩
theorem allocR_sound (O : VOk C) {o : Obj} {R : KT} {m : Nat} {k : KT → Out} (hf : (allocR C.V o R m k).fair) :
    ∃ R', allocR C.V o R m k = k R' ∧ ∀ s i, Rep C s R m i → Rep C { s with heap := s.heap.push o } R' (m + 1) i := by
  unfold allocR at hf ⊢
  cases q : o.isFreed with
  | true => rw [q] at hf; cases hf
  | false =>
    rw [q] at hf
    dsimp only at hf ⊢
    cases e : Nat.blt m 65536 with
    | false => rw [e] at hf; cases hf
    | true =>
      dsimp only
      exact ⟨_, rfl, fun s i D => D.alloc O q (Nat.le_of_ble_eq_true e)⟩
theorem updateR_sound {a : Addr} {f : Obj → Obj} {R : KT} {sc : List Nat} {ps qs : List It} {k : KT → List Nat → List It → List It → Out} (hf : (updateR C.V a f R sc ps qs k).fair) (hk : ∀ R sc ps qs, (k R sc ps qs).fair → ps = qs) :
    ps = qs ∧ ∃ R' sc' ps' qs', updateR C.V a f R sc ps qs k = k R' sc' ps' qs' ∧ ∀ s m i, Rep C s R m i → (∃ o, s.heap.get? a = some o) ∧ Rep C { s with heap := s.heap.update a f } R' m i := by
  unfold updateR at hf ⊢
  cases sc with
  | nil => cases hf
  | cons j sc =>
    cases j with
    | zero => cases hf
    | succ j =>
      dsimp only at hf ⊢
      cases e : R.get j with
      | none => rw [e] at hf; cases hf
      | some o =>
        rw [e] at hf
        dsimp only at hf ⊢
        cases q : (f o).isFreed with
        | true => rw [q] at hf; cases hf
        | false =>
          rw [q] at hf
          dsimp only at hf ⊢
          cases b : Nat.blt j 65536 with
          | false => rw [b] at hf; cases hf
          | true =>
            rw [b] at hf
            dsimp only at hf ⊢
            have h := hk _ _ _ _ hf
            injection h with h1 h2
            injection h1 with h1
            exact ⟨h2, _, sc, _, _, rfl, fun s m i D => ⟨⟨o, h1 ▸ (D.own _ o e).2⟩, h1 ▸ D.update e q (Nat.le_of_ble_eq_true b)⟩⟩

noncomputable abbrev IH (C : VC) (ih : RTy) : Prop := ∀ n hd κ md R m i sc ps qs, (ih n hd κ md R m i sc ps qs).fair → ps = qs ∧
  (κ.Fit C.V.ag → (ih n hd κ md R m i sc ps qs).Next C → ∀ s, Rep C s R m i → Good C.M n hd κ md.act s)

theorem retR_sound {ih : RTy} (H : IH C ih) {r : Result} {κ : TK} {R : KT} {m i : Nat} {sc : List Nat} {ps qs : List It} (hf : (retR ih r κ R m i sc ps qs).fair) :
    ps = qs ∧ (κ.Fit C.V.ag → (retR ih r κ R m i sc ps qs).Next C → ∀ s, Rep C s R m i → Post C.M κ r s) := by
  cases κ with
  | base W R₀ => exact ⟨hf, fun _ h s D => h s D⟩
  | ret n hd k κ => exact H _ _ _ _ _ _ _ _ _ _ hf
theorem codeR_sound (O : VOk C) {ih : RTy} (H : IH C ih) {n : Nat} {hd : Option Value} {κ : TK} {c : Code} {R : KT} {m i : Nat} {sc : List Nat} {ps qs : List It} (hf : (codeR C.V ih n hd κ c R m i sc ps qs).fair) :
    ps = qs ∧ (κ.Fit C.V.ag → (codeR C.V ih n hd κ c R m i sc ps qs).Next C → ∀ s, Rep C s R m i → GoodC C.M n hd κ c s) := by
  have plain : ∀ c, (plainR C.V ih n hd κ c R m i sc ps qs).fair → ps = qs ∧ (κ.Fit C.V.ag → (plainR C.V ih n hd κ c R m i sc ps qs).Next C → ∀ s, Rep C s R m i → GoodC C.M n hd κ c s) := fun c hf => by
    unfold plainR at hf ⊢
    cases b : Nat.blt n 90 with
    | false => rw [b] at hf; cases hf
    | true =>
      rw [b] at hf
      dsimp only at hf ⊢
      have z := H _ _ _ _ _ _ _ _ _ _ hf
      refine ⟨z.1, fun hF hn s D => good_code fun Γ p hΓ hW => O.den c C.M n hd Γ _ _ p s hΓ (Nat.le_of_ble_eq_true b) (z.2 hF hn s D Γ p hΓ hW)⟩
  cases c with
  | call f args =>
    cases f with
    | ref a =>
      unfold codeR at hf ⊢
      dsimp only at hf ⊢
      cases e : C.V.kt.get a with
      | none => rw [e] at hf; cases hf
      | some o =>
        rw [e] at hf
        dsimp only at hf ⊢
        cases d : o.data with
        | func fd =>
          rw [d] at hf
          dsimp only at hf ⊢
          have z := H _ _ _ _ _ _ _ _ _ _ hf
          refine ⟨z.1, fun hF hn s D => good_code ?_⟩
          have y := z.2 hF hn s D
          rw [O.pre] at y
          rw [O.table]
          have ho := D.old O e
          show Good C.M n hd κ (callAny (.ref a) args) s
          have et : callAny (.ref a) args = (Sem.load a none Sem.pure).bind (fun o => match o.data with
            | .func fd => callFunction a fd args
            | .fields vs =>
              if o.cls == .type "method" || o.cls == .type "builtin_function_or_method" || o.cls == .type "method-wrapper" then do
                let (some func, some self) := (vs[0]?, vs[1]?) | unsupported "internal:method-record"
                let all := { args with pos := self :: args.pos }
                if let .builtin id := func then
                  if o.cls != .type "method" then
                    checkBoundCall id all
                    return ← again (.builtin id all)
                again (.call func all)
              else callAny.viaDunder (.ref a) args
            | _ => callAny.viaDunder (.ref a) args) := rfl
          rw [et]
          refine good_load ho ?_
          show Good C.M n hd κ (match o.data with | .func fd => callFunction a fd args | .fields vs => _ | _ => _) s
          rw [d]
          show Good C.M n hd κ (callFunction a fd args) s
          rw [callFunction_eq]
          exact y
        | _ => rw [d] at hf; exact plain _ hf
    | _ => exact plain _ hf
  | _ => exact plain _ hf

theorem stepR_sound (O : VOk C) (UO : UsesOk C) {ih : RTy} (H : IH C ih) : ∀ n hd κ t R m i sc ps qs, (stepR C.V ih n hd κ t R m i sc ps qs).fair → ps = qs ∧
    (κ.Fit C.V.ag → (stepR C.V ih n hd κ t R m i sc ps qs).Next C → ∀ s, Rep C s R m i → Good C.M n hd κ t s) := by
  intro n hd κ t R m i sc ps qs hf
  have fwd : ∀ {md R m i sc ps qs}, (ih n hd κ md R m i sc ps qs).fair → ps = qs := fun hf => (H _ _ _ _ _ _ _ _ _ _ hf).1
  cases t with
  | pure fin =>
    cases fin with
    | done f =>
      have z := retR_sound H (r := .ok f) hf
      exact ⟨z.1, fun hF hn s D => good_done (z.2 hF hn s D)⟩
    | again c =>
      unfold stepR at hf ⊢
      dsimp only at hf ⊢
      cases q : C.V.quiet c with
      | false => rw [q] at hf; cases hf
      | true =>
        rw [q] at hf
        dsimp only at hf ⊢
        cases q' : agOk C.V.ag κ with
        | false => rw [q'] at hf; cases hf
        | true =>
          rw [q'] at hf
          have z := codeR_sound O H hf
          refine ⟨z.1, fun hF hn s D => good_again ?_ (O.quiet c q) (z.2 hF hn s D)⟩
          cases κ with
          | base W R₀ => exact fun Γ c hW => hF q' Γ c hW
          | ret => exact fun _ _ _ => trivial
  | raise e =>
    have z := retR_sound H (r := .error e) hf
    exact ⟨z.1, fun hF hn s D => good_raise (z.2 hF hn s D)⟩
  | rule tag k =>
    have z := H _ _ _ _ _ _ _ _ _ _ hf
    exact ⟨z.1, fun hF hn s D => good_rule (z.2 hF hn s D)⟩
  | «at» p k =>
    have z := H _ _ _ _ _ _ _ _ _ _ hf
    exact ⟨z.1, fun hF hn s D => good_at (z.2 hF hn s D)⟩
  | point l k =>
    have z := H _ _ _ _ _ _ _ _ _ _ hf
    exact ⟨z.1, fun hF hn s D => good_point (z.2 hF hn s D)⟩
  | ask k =>
    have z := H _ _ _ _ _ _ _ _ _ _ hf
    exact ⟨z.1, fun hF hn s D => good_ask (by have y := z.2 hF hn s D; rw [O.prog, O.params] at y; exact y)⟩
  | load a q k =>
    obtain ⟨h1, o, sc', ps', qs', e, ho⟩ := lookR_sound O hf fun _ _ _ _ h => fwd h
    have hf' : (ih n hd κ (.nor (k o)) R m i sc' ps' qs').fair := by
      have : (lookR C.V a R sc ps qs fun o sc ps qs => ih n hd κ (.nor (k o)) R m i sc ps qs).fair := hf
      rw [e] at this; exact this
    have z := H _ _ _ _ _ _ _ _ _ _ hf'
    refine ⟨h1, fun hF hn s D => good_load (ho s m i D) (z.2 hF ?_ s D)⟩
    have : (lookR C.V a R sc ps qs fun o sc ps qs => ih n hd κ (.nor (k o)) R m i sc ps qs).Next C := hn
    rw [e] at this; exact this
  | loadIfAlive a k =>
    obtain ⟨h1, o, sc', ps', qs', e, ho⟩ := lookR_sound O hf fun _ _ _ _ h => fwd h
    have hf' : (ih n hd κ (.nor (k (some o))) R m i sc' ps' qs').fair := by
      have : (lookR C.V a R sc ps qs fun o sc ps qs => ih n hd κ (.nor (k (some o))) R m i sc ps qs).fair := hf
      rw [e] at this; exact this
    have z := H _ _ _ _ _ _ _ _ _ _ hf'
    refine ⟨h1, fun hF hn s D => good_alive (ho s m i D) (z.2 hF ?_ s D)⟩
    have : (lookR C.V a R sc ps qs fun o sc ps qs => ih n hd κ (.nor (k (some o))) R m i sc ps qs).Next C := hn
    rw [e] at this; exact this
  | alloc o k =>
    obtain ⟨R', e, hR⟩ := allocR_sound O (C := C) (k := fun R => ih n hd κ (.nor (k (C.V.adr m))) R (m + 1) i sc ps qs) hf
    have hf' : (ih n hd κ (.nor (k (C.V.adr m))) R' (m + 1) i sc ps qs).fair := by
      have : (allocR C.V o R m fun R => ih n hd κ (.nor (k (C.V.adr m))) R (m + 1) i sc ps qs).fair := hf
      rw [e] at this; exact this
    have z := H _ _ _ _ _ _ _ _ _ _ hf'
    refine ⟨z.1, fun hF hn s D => good_alloc ?_⟩
    have : (allocR C.V o R m fun R => ih n hd κ (.nor (k (C.V.adr m))) R (m + 1) i sc ps qs).Next C := hn
    rw [e] at this
    have y := z.2 hF this _ (hR s i D)
    rw [← D.size] at y
    exact y
  | update a q f k =>
    obtain ⟨h1, R', sc', ps', qs', e, hR⟩ := updateR_sound (C := C) (k := fun R sc ps qs => ih n hd κ (.nor (k ())) R m i sc ps qs) hf fun _ _ _ _ h => fwd h
    have hf' : (ih n hd κ (.nor (k ())) R' m i sc' ps' qs').fair := by
      have : (updateR C.V a f R sc ps qs fun R sc ps qs => ih n hd κ (.nor (k ())) R m i sc ps qs).fair := hf
      rw [e] at this; exact this
    have z := H _ _ _ _ _ _ _ _ _ _ hf'
    refine ⟨h1, fun hF hn s D => ?_⟩
    obtain ⟨⟨o, ho⟩, D'⟩ := hR s m i D
    refine good_update ho (z.2 hF ?_ _ D')
    have : (updateR C.V a f R sc ps qs fun R sc ps qs => ih n hd κ (.nor (k ())) R m i sc ps qs).Next C := hn
    rw [e] at this; exact this
  | fresh k =>
    have z := H _ _ _ _ _ _ _ _ _ _ hf
    refine ⟨z.1, fun hF hn s D => good_fresh ?_⟩
    have y := z.2 hF hn _ (D.fresh O)
    rw [← D.toks] at y
    exact y
  | handled own k =>
    cases own with
    | true => cases hf
    | false =>
      have z := H _ _ _ _ _ _ _ _ _ _ hf
      exact ⟨z.1, fun hF hn s D => good_handled (z.2 hF hn s D)⟩
  | call c h g l k =>
    unfold stepR at hf ⊢
    dsimp only at hf ⊢
    cases sc with
    | nil => cases hf
    | cons e sc =>
      cases e with
      | zero =>
        dsimp only at hf ⊢
        cases q : markQ h hd with
        | none => rw [q] at hf; cases hf
        | some hd' =>
          rw [q] at hf
          dsimp only at hf ⊢
          have z := codeR_sound O H hf
          exact ⟨z.1, fun hF hn s D => good_call q (z.2 hF hn s D)⟩
      | succ e =>
        cases h with
        | some _ => cases hf
        | none =>
          cases hd with
          | some _ => cases hf
          | none =>
            dsimp only at hf ⊢
            cases hn60 : Nat.blt n C.V.lim with
            | false => rw [hn60] at hf; cases hf
            | true =>
              rw [hn60] at hf
              dsimp only at hf ⊢
              have hlt : n < C.V.lim := Nat.le_of_ble_eq_true hn60
              cases x : nthU C.V.us e with
              | none => rw [x] at hf; cases hf
              | some u =>
                rw [x] at hf
                dsimp only at hf ⊢
                cases q1 : Nat.beq u.m m with
                | false => rw [q1] at hf; cases hf
                | true =>
                rw [q1] at hf
                dsimp only at hf ⊢
                cases q2 : Nat.beq u.i i with
                | false => rw [q2] at hf; cases hf
                | true =>
                rw [q2] at hf
                dsimp only at hf ⊢
                cases q3 : idxOk u.outs with
                | false => rw [q3] at hf; cases hf
                | true =>
                rw [q3] at hf
                dsimp only at hf ⊢
                have e1 := Nat.eq_of_beq_eq_true q1
                have e2 := Nat.eq_of_beq_eq_true q2
                subst e1
                subst e2
                have z := H _ _ _ _ _ _ _ _ _ _ hf
                have z0 := z.1
                injection z0 with z1 z2
                injection z1 with z1
                obtain ⟨z3, z4⟩ := ins_eq z2
                refine ⟨z3, fun hF hn s D => good_call (hd' := none) rfl ?_⟩
                rw [z1]
                exact UO u (nthU_mem x) q3 s R D z4 n _ hlt fun s' D' => z.2 hF hn s' D'
  | unsupported => cases hf
  | finish => cases hf
  | register => cases hf
  | choose => cases hf
  | os => cases hf
  | newGen => cases hf
  | genState => cases hf
  | resume => cases hf
  | yield => cases hf
  | stack => cases hf
  | fork => cases hf
  | thread => cases hf
  | await => cases hf

theorem stepE_sound (O : VOk C) {ih : RTy} (H : IH C ih) : ∀ n hd κ t r R m i sc ps qs, (stepE C.V ih n hd κ t r R m i sc ps qs).fair → ps = qs ∧
    (κ.Fit C.V.ag → (stepE C.V ih n hd κ t r R m i sc ps qs).Next C → ∀ s, Rep C s R m i → Good C.M n hd κ (Md.ent t r).act s) := by
  intro n hd κ t r R m i sc ps qs hf
  have fwd : ∀ {md R m i sc ps qs}, (ih n hd κ md R m i sc ps qs).fair → ps = qs := fun hf => (H _ _ _ _ _ _ _ _ _ _ hf).1
  cases t with
  | pure env =>
    unfold stepE at hf ⊢
    dsimp only at hf ⊢
    cases b : Nat.blt n 90 with
    | false => rw [b] at hf; cases hf
    | true =>
    rw [b] at hf
    have hn90 : n < 90 := Nat.le_of_ble_eq_true b
    have z := H _ _ _ _ _ _ _ _ _ _ hf
    refine ⟨z.1, fun hF hn s D Γ p hΓ hW => ?_⟩
    show Sem.wp C.M Γ (enterFrame.bind fun _ => r env) _ _ p s
    rw [Sem.wp_bind]
    exact wp_enter hΓ hn90 (O.nolimit _ D.keep) (z.2 hF hn s D Γ p hΓ hW)
  | rule tag k =>
    have z := H _ _ _ _ _ _ _ _ _ _ hf
    exact ⟨z.1, fun hF hn s D => good_rule (z.2 hF hn s D)⟩
  | «at» p k =>
    have z := H _ _ _ _ _ _ _ _ _ _ hf
    exact ⟨z.1, fun hF hn s D => good_at (z.2 hF hn s D)⟩
  | point l k =>
    have z := H _ _ _ _ _ _ _ _ _ _ hf
    exact ⟨z.1, fun hF hn s D => good_point (z.2 hF hn s D)⟩
  | ask k =>
    have z := H _ _ _ _ _ _ _ _ _ _ hf
    exact ⟨z.1, fun hF hn s D => good_ask (by have y := z.2 hF hn s D; rw [O.prog, O.params] at y; exact y)⟩
  | load a q k =>
    obtain ⟨h1, o, sc', ps', qs', e, ho⟩ := lookR_sound O hf fun _ _ _ _ h => fwd h
    have hf' : (ih n hd κ (.ent (k o) r) R m i sc' ps' qs').fair := by
      have : (lookR C.V a R sc ps qs fun o sc ps qs => ih n hd κ (.ent (k o) r) R m i sc ps qs).fair := hf
      rw [e] at this; exact this
    have z := H _ _ _ _ _ _ _ _ _ _ hf'
    refine ⟨h1, fun hF hn s D => good_load (ho s m i D) (z.2 hF ?_ s D)⟩
    have : (lookR C.V a R sc ps qs fun o sc ps qs => ih n hd κ (.ent (k o) r) R m i sc ps qs).Next C := hn
    rw [e] at this; exact this
  | loadIfAlive a k =>
    obtain ⟨h1, o, sc', ps', qs', e, ho⟩ := lookR_sound O hf fun _ _ _ _ h => fwd h
    have hf' : (ih n hd κ (.ent (k (some o)) r) R m i sc' ps' qs').fair := by
      have : (lookR C.V a R sc ps qs fun o sc ps qs => ih n hd κ (.ent (k (some o)) r) R m i sc ps qs).fair := hf
      rw [e] at this; exact this
    have z := H _ _ _ _ _ _ _ _ _ _ hf'
    refine ⟨h1, fun hF hn s D => good_alive (ho s m i D) (z.2 hF ?_ s D)⟩
    have : (lookR C.V a R sc ps qs fun o sc ps qs => ih n hd κ (.ent (k (some o)) r) R m i sc ps qs).Next C := hn
    rw [e] at this; exact this
  | alloc o k =>
    obtain ⟨R', e, hR⟩ := allocR_sound O (C := C) (k := fun R => ih n hd κ (.ent (k (C.V.adr m)) r) R (m + 1) i sc ps qs) hf
    have hf' : (ih n hd κ (.ent (k (C.V.adr m)) r) R' (m + 1) i sc ps qs).fair := by
      have : (allocR C.V o R m fun R => ih n hd κ (.ent (k (C.V.adr m)) r) R (m + 1) i sc ps qs).fair := hf
      rw [e] at this; exact this
    have z := H _ _ _ _ _ _ _ _ _ _ hf'
    refine ⟨z.1, fun hF hn s D => good_alloc ?_⟩
    have : (allocR C.V o R m fun R => ih n hd κ (.ent (k (C.V.adr m)) r) R (m + 1) i sc ps qs).Next C := hn
    rw [e] at this
    have y := z.2 hF this _ (hR s i D)
    rw [← D.size] at y
    exact y
  | update a q f k =>
    obtain ⟨h1, R', sc', ps', qs', e, hR⟩ := updateR_sound (C := C) (k := fun R sc ps qs => ih n hd κ (.ent (k ()) r) R m i sc ps qs) hf fun _ _ _ _ h => fwd h
    have hf' : (ih n hd κ (.ent (k ()) r) R' m i sc' ps' qs').fair := by
      have : (updateR C.V a f R sc ps qs fun R sc ps qs => ih n hd κ (.ent (k ()) r) R m i sc ps qs).fair := hf
      rw [e] at this; exact this
    have z := H _ _ _ _ _ _ _ _ _ _ hf'
    refine ⟨h1, fun hF hn s D => ?_⟩
    obtain ⟨⟨o, ho⟩, D'⟩ := hR s m i D
    refine good_update ho (z.2 hF ?_ _ D')
    have : (updateR C.V a f R sc ps qs fun R sc ps qs => ih n hd κ (.ent (k ()) r) R m i sc ps qs).Next C := hn
    rw [e] at this; exact this
  | fresh k =>
    have z := H _ _ _ _ _ _ _ _ _ _ hf
    refine ⟨z.1, fun hF hn s D => good_fresh ?_⟩
    have y := z.2 hF hn _ (D.fresh O)
    rw [← D.toks] at y
    exact y
  | _ => cases hf

theorem runR_sound (O : VOk C) (UO : UsesOk C) : ∀ N, IH C (runR C.V N)
  | 0 => fun _ _ _ _ _ _ _ _ _ _ hf => ⟨hf, fun hF hn s D => hn s D⟩
  | N + 1 => fun n hd κ md R m i sc ps qs hf => by
    cases md with
    | nor t => exact stepR_sound O UO (runR_sound O UO N) n hd κ t R m i sc ps qs hf
    | ent t r => exact stepE_sound O (runR_sound O UO N) n hd κ t r R m i sc ps qs hf
end
end Mine
end
section
set_option maxRecDepth 100000
namespace Mine
open PySem PySem.W PySem.W.X PyProof.Rows

/-- the call is to end in True, all that stood before as it was -/
noncomputable def EndsTrue (s : Shared) : TK := .base (fun Γ => envsOf Γ.below = []) fun r s' => r = .ok (.ret (.bool true)) ∧ (∀ b o, s.heap.get? b = some o → s'.heap.get? b = some o) ∧ s'.gens = #[] ∧ s'.os = s.os
/-- what stands in the heap, by a tree of objects -/
structure HeapIs (h : Heap) (T : KT) : Prop where
  at_ : ∀ a o, T.get a = some o → h.get? a = some o
theorem heapIs_of {h : Heap} {T : KT} (H : KT.Holds h 1 0 T) : HeapIs h T := ⟨fun a o e => by
  have z := KT.Holds.get H e
  rw [Nat.one_mul, Nat.add_zero] at z
  exact z⟩
noncomputable def WalkGoal (kt : Params → KT) : Prop := ∀ (w : World) (s : Shared) (ns : List Int) (vals : List Value),
  HeapIs s.heap (kt w.params) → s.heap.objs.size = 417 → s.heap.NoLimit → s.gens = #[] →
  s.heap.get? 416 = some { cls := .type "list", data := .seq vals.toArray } → IntsAre vals ns → ns.length ≤ 63 →
  GoodC (model PySem.Challenge.pw_rg0017_01 w) 1 none (EndsTrue s) (.call (.ref 415) ⟨[.ref 416], []⟩) s

theorem ok_caller {Γ : Ctx} (h : Γ.In callerA) : Ok 0 none Γ := by
  obtain ⟨h1, h2, _, _, h5⟩ := h
  refine ⟨h1, ?_, ?_⟩
  · have := frameCount_ge Γ.below
    have e : callerA.depth = 301 := rfl
    show cnt Γ.below ≤ _
    unfold cnt
    omega
  · have e : callerA.units = 4 := rfl
    have : Γ.units = Γ.code.cUnits + unitsOf Γ.below := rfl
    omega
theorem call_good {M : Model} {f : Value} {args : List Value} {s : Shared} {Q E : Value → Shared → Prop} (R : Result → Shared → Prop) (H : GoodC M 1 none (.base (fun Γ => envsOf Γ.below = []) R) (.call f ⟨args, []⟩) s)
    (h : ∀ r s', R r s' → ∃ v, r = .ok (.ret v) ∧ Q v s') : wpAny M callerA (call f args) Q E s := fun Γ p hΓ => by
  have k := ok_caller hΓ
  have e : call f args = (Sem.call (.call f ⟨args, []⟩) none false [] fun r => match r with | .ok fl => .pure fl | .error e => .raise e).bind (fun fl => match fl with | .ret v => .pure v | _ => unsupported "internal:call-without-return-value") := rfl
  rw [e, Sem.wp_bind, Sem.wp_call]
  refine wpCode_mono (fun r s' hr => ?_) (H (Γ.enter (.call f ⟨args, []⟩) none p) p (k.enter _ p rfl) (by
    show envsOf ((Γ.code, p) :: Γ.below) = []
    rw [envsOf_cons]; exact hΓ.2.2.1 [] rfl) rfl)
  obtain ⟨v, rfl, hq⟩ := h r s' hr
  exact hq
end Mine
end
section
set_option maxRecDepth 100000
namespace Mine
open PySem PySem.W PySem.W.X

noncomputable def preF (self : Addr) (fd : FuncData) (args : Args) : Sem Env :=
  let rest (compiled : Str) : Sem Env := R.bindR (Fast.tw9782568553167038054 fd args) fun bs => Fast.tw11113344188204177931 fd.scope fd.globals fd.closure bs (compiled ++ (".<locals>." : Str)) (some self) fd.code none fd.builtins
  match fd.code with
  | .none => rest fd.qualname
  | c => R.bindR (Fast.tw6609576154772507232 c 1) fun v => match v with
    | .str q _ => rest q
    | _ => rest fd.qualname
theorem preF_eq : preF = pre := by
  unfold preF pre
  rw [← Fast.te9782568553167038054, ← Fast.te11113344188204177931, ← Fast.te6609576154772507232, ← R.bindR_eq]
  all_goals rfl
noncomputable def denF : Code → Sem Fin := Fast.tw11892475500146522536 Fast.tw14364793385576792824
theorem denF_eq : denF = denote table := by
  unfold denF
  rw [← Fast.te11892475500146522536, ← Fast.te14364793385576792824, table_eq_tree]
noncomputable def denR (c : Code) : Sem Fin := match c with
  | .func body env => funcR body env
  | .whileLoop test body orelse env => whileR test body orelse env
  | c => denF c
theorem denR_rl (c : Code) : Rl (denote table c) (denR c) := by
  unfold denR
  split
  · exact rl_func _ _
  · exact rl_while _ _ _ _
  · rw [denF_eq]; exact Rl.refl _
noncomputable def quietF : Code → Bool := ZFast.zw17772548960776305114
theorem quietF_eq (c : Code) (h : quietF c = true) : c.quiet = true := by
  unfold quietF at h
  rw [← ZFast.ze17772548960776305114] at h
  exact h

/-- the two rows of the world that the call asks -/
noncomputable def parOf (P : Params) (b c : Bool) : Params := { P with followText := fun r => match Fast.strDec r "special-get-raises" with
  | .isTrue _ => b
  | .isFalse _ => match Fast.strDec r "comprehension-iter-twice" with
    | .isTrue _ => c
    | .isFalse _ => P.followText r }
theorem parOf_self (P : Params) : parOf P (P.followText "special-get-raises") (P.followText "comprehension-iter-twice") = P := by
  have : (fun r => match Fast.strDec r "special-get-raises" with
    | .isTrue _ => P.followText "special-get-raises"
    | .isFalse _ => match Fast.strDec r "comprehension-iter-twice" with
      | .isTrue _ => P.followText "comprehension-iter-twice"
      | .isFalse _ => P.followText r) = P.followText := by
    funext r
    cases Fast.strDec r "special-get-raises" with
    | isTrue h => subst h; rfl
    | isFalse h =>
      cases Fast.strDec r "comprehension-iter-twice" with
      | isTrue h => subst h; rfl
      | isFalse h => rfl
  unfold parOf
  rw [this]

noncomputable def vOf (kt : Params → KT) (P : Params) (b c : Bool) (σ τ : Nat → Nat) (lim : Nat) (us : List Use) : RV :=
  ⟨PySem.Challenge.pw_rg0017_01, parOf P b c, kt P, denR, quietF, preF, fun i => σ i + 417, τ, lim, us, true⟩
/-- a call of the text, run from its start with own objects R, m of them, i tokens -/
noncomputable def goR (V : RV) (N n : Nat) (κ : TK) (c : Code) (R : KT) (m i : Nat) (sc : List Nat) : Out := codeR V (runR V N) n none κ c R m i sc [] []
end Mine
end
section
set_option maxRecDepth 100000
namespace Mine
open PySem PySem.W PySem.W.X
noncomputable def Out.lhs : Out → List It
  | .res _ _ _ _ _ ps _ => ps
  | .at _ _ _ _ _ _ _ _ ps _ => ps
  | _ => [.n 0]
noncomputable def Out.rhs : Out → List It
  | .res _ _ _ _ _ _ qs => qs
  | .at _ _ _ _ _ _ _ _ _ qs => qs
  | _ => [.n 1]
noncomputable def Out.view (js : List Nat) : Out → Option (TK × Result × List (Option Obj) × Nat × Nat)
  | .res κ r R m i _ _ => some (κ, r, js.map R.get, m, i)
  | _ => none
/-- an entry of a dict by a text -/
noncomputable def ent (P : Params) (s : Str) (t : Nat) (v : Value) : DictEntry := ⟨if s.cps.isEmpty = true then 0 else reduceHash (P.strHash s.cps), .str s t, v⟩
end Mine
end
section
set_option maxRecDepth 100000
namespace Mine
open PySem PySem.W PySem.W.X

theorem Ok.mono {n n' : Nat} {hd : Option Value} {Γ : Ctx} (h : Ok n hd Γ) (l : n ≤ n') : Ok n' hd Γ := ⟨h.handled, by have := h.count; omega, by have := h.units; omega⟩
theorem GoodC.mono {M : Model} {n n' : Nat} {hd : Option Value} {κ : TK} {c : Code} {s : Shared} (h : GoodC M n' hd κ c s) (l : n ≤ n') : GoodC M n hd κ c s := fun Γ p o w e => h Γ p (o.mono l) w e

/-! ### a tree with a list put in -/
theorem get_putL : ∀ (l : List (Nat × Obj)) (R : KT), idxOk l = true → ∀ j o, (putL R l).get j = some o → (j, o) ∈ l ∨ ((∀ p ∈ l, p.1 ≠ j) ∧ R.get j = some o)
  | [], R, _, j, o, e => .inr ⟨fun _ h => (nomatch h), e⟩
  | (k, x) :: l, R, hk, j, o, e => by
    unfold idxOk at hk
    cases b : Nat.blt k 65536 with
    | false => rw [b] at hk; cases hk
    | true =>
      rw [b] at hk
      rcases get_putL l _ hk j o e with h | ⟨h1, h2⟩
      · exact .inl (List.mem_cons_of_mem _ h)
      · rw [get_putT x 16 R k (Nat.le_of_ble_eq_true b)] at h2
        by_cases q : j = k
        · subst q
          rw [if_pos rfl] at h2
          cases h2
          exact .inl List.mem_cons_self
        · rw [if_neg q] at h2
          refine .inr ⟨fun p hp => ?_, h2⟩
          rcases List.mem_cons.mp hp with rfl | hp
          · exact fun e => q e.symm
          · exact h1 p hp

theorem getD_at {l : List Nat} {x : Nat} (h : x < l.length) : l.getD x 0 = l[x] := by simp [List.getD, h]

theorem nodup_inj : ∀ {l : List Nat}, l.Nodup → ∀ {x y : Nat} (hx : x < l.length) (hy : y < l.length), l[x] = l[y] → x = y
  | [], _, _, _, hx, _, _ => nomatch hx
  | a :: l, h, x, y, hx, hy, e => by
    obtain ⟨h1, h2⟩ := List.nodup_cons.mp h
    cases x with
    | zero => cases y with
      | zero => rfl
      | succ y =>
        simp only [List.getElem_cons_zero, List.getElem_cons_succ] at e
        exact absurd (e ▸ List.getElem_mem _) h1
    | succ x => cases y with
      | zero =>
        simp only [List.getElem_cons_zero, List.getElem_cons_succ] at e
        exact absurd (e ▸ List.getElem_mem _) h1
      | succ y =>
        simp only [List.getElem_cons_succ] at e
        rw [nodup_inj h2 _ _ e]

/-! ### the ledger of a call within a call -/
structure Fix where
  kt : Params → KT
  w : World
  b : Bool
  c : Bool
noncomputable def Fix.v (F : Fix) (σ τ : Nat → Nat) (lim : Nat) (us : List Use) : RV := vOf F.kt F.w.params F.b F.c σ τ lim us
noncomputable def Fix.vc (F : Fix) (σ τ : Nat → Nat) (lim : Nat) (us : List Use) (K : Addr → Option Obj) (dr : Drawn) (os : OsState) (m₀ i₀ : Nat) : VC :=
  ⟨F.v σ τ lim us, model PySem.Challenge.pw_rg0017_01 F.w, K, dr, os, m₀, i₀⟩
structure Fix.Ok (F : Fix) : Prop where
  hb : F.w.params.followText "special-get-raises" = F.b
  hc : F.w.params.followText "comprehension-iter-twice" = F.c

section
variable {F : Fix} {σ τ : Nat → Nat} {lim : Nat} {us : List Use} {K : Addr → Option Obj} {dr : Drawn} {os : OsState} {m₀ i₀ : Nat}

theorem Fix.Ok.vok (H : F.Ok) (hkt : ∀ a o, (F.kt F.w.params).get a = some o → K a = some o)
    (hn : ∀ h : Heap, (∀ b o, K b = some o → h.get? b = some o) → h.NoLimit) (hσ : ∀ j, m₀ ≤ j → σ (j + 1) = σ j + 1) (hτ : ∀ j, i₀ ≤ j → τ (j + 1) = τ j + 1) :
    VOk (F.vc σ τ lim us K dr os m₀ i₀) where
  den := denR_rl
  quiet := quietF_eq
  pre := preF_eq
  prog := rfl
  params := by
    show parOf F.w.params F.b F.c = F.w.params
    rw [← H.hb, ← H.hc]; exact parOf_self _
  kt := hkt
  nolimit := hn
  table := rfl
  adr := fun j h => by
    show σ (j + 1) + 417 = σ j + 417 + 1
    rw [hσ j h]
  tok := hτ

/-- addresses and tokens of a call within: first the objects handed in, then what it makes -/
noncomputable def inσ (σ : Nat → Nat) (m : Nat) (js : List Nat) (x : Nat) : Nat := if x < js.length then σ (js.getD x 0) else σ m + (x - js.length)
noncomputable def inτ (τ : Nat → Nat) (i : Nat) (x : Nat) : Nat := τ i + x
open Classical in
noncomputable def inK (σ : Nat → Nat) (js : List Nat) (s : Shared) (b : Addr) : Option Obj := if ∃ j ∈ js, b = σ j + 417 then none else s.heap.get? b

variable {s : Shared} {R : KT} {m i : Nat} {js : List Nat}

theorem linear {σ : Nat → Nat} {m₀ : Nat} (h : ∀ j, m₀ ≤ j → σ (j + 1) = σ j + 1) {m : Nat} (hm : m₀ ≤ m) : ∀ y, σ (m + y) = σ m + y
  | 0 => rfl
  | y + 1 => by
    have := h (m + y) (by omega)
    rw [← Nat.add_assoc, this, linear h hm y, Nat.add_assoc]

theorem inK_keep (D : Rep (F.vc σ τ lim us K dr os m₀ i₀) s R m i) (hjs : ∀ j ∈ js, (R.get j).isSome = true) : ∀ b o, K b = some o → inK σ js s b = some o := fun b o e => by
  unfold inK
  rw [if_neg]
  · exact D.keep b o e
  · rintro ⟨j, hj, rfl⟩
    obtain ⟨o', eo⟩ := Option.isSome_iff_exists.mp (hjs j hj)
    have := (D.own j o' eo).1
    have e' : K (σ j + 417) = none := this
    rw [e'] at e; cases e

theorem sub_vok (H : F.Ok) (O : VOk (F.vc σ τ lim us K dr os m₀ i₀)) (D : Rep (F.vc σ τ lim us K dr os m₀ i₀) s R m i) (hjs : ∀ j ∈ js, (R.get j).isSome = true)
    {lim' : Nat} {us' : List Use} :
    VOk (F.vc (inσ σ m js) (inτ τ i) lim' us' (inK σ js s) dr os js.length 0) := by
  refine H.vok (fun a o e => inK_keep D hjs a o (O.kt a o e)) (fun h e => O.nolimit h fun b o q => e b o (inK_keep D hjs b o q)) (fun j hj => ?_) (fun j _ => ?_)
  · unfold inσ
    rw [if_neg (by omega), if_neg (by omega)]
    omega
  · unfold inτ; omega

theorem sub_in (D : Rep (F.vc σ τ lim us K dr os m₀ i₀) s R m i) (hjs : ∀ j ∈ js, (R.get j).isSome = true) (hnd : js.Nodup)
    {lim' : Nat} {us' : List Use} {R₀ : KT} (h₀ : ∀ x o, R₀.get x = some o → x < js.length ∧ R.get (js.getD x 0) = some o) :
    Rep (F.vc (inσ σ m js) (inτ τ i) lim' us' (inK σ js s) dr os js.length 0) s R₀ js.length 0 where
  gens := D.gens
  drawn := D.drawn
  os := D.os
  keep := fun b o e => by
    have e' : inK σ js s b = some o := e
    unfold inK at e'
    split at e'
    · cases e'
    · exact e'
  size := by
    rw [D.size]
    show σ m + 417 = inσ σ m js js.length + 417
    unfold inσ
    rw [if_neg (Nat.lt_irrefl _), Nat.sub_self, Nat.add_zero]
  toks := D.toks
  hm := Nat.le_refl _
  hi := Nat.le_refl _
  own := fun x o e => by
    obtain ⟨hx, ho⟩ := h₀ x o e
    have hm : js.getD x 0 ∈ js := by
      rw [getD_at hx]; exact List.getElem_mem hx
    have ea : inσ σ m js x = σ (js.getD x 0) := by unfold inσ; rw [if_pos hx]
    show inK σ js s (inσ σ m js x + 417) = none ∧ s.heap.get? (inσ σ m js x + 417) = some o
    rw [ea]
    refine ⟨?_, (D.own _ o ho).2⟩
    unfold inK
    rw [if_pos ⟨_, hm, rfl⟩]
  inj := fun x y hx hy e => by
    obtain ⟨ox, ex⟩ := Option.isSome_iff_exists.mp hx
    obtain ⟨oy, ey⟩ := Option.isSome_iff_exists.mp hy
    obtain ⟨hx, ex⟩ := h₀ x ox ex
    obtain ⟨hy, ey⟩ := h₀ y oy ey
    have e' : inσ σ m js x + 417 = inσ σ m js y + 417 := e
    unfold inσ at e'
    rw [if_pos hx, if_pos hy] at e'
    have := D.inj _ _ (by rw [ex]; rfl) (by rw [ey]; rfl) e'
    rw [getD_at hx, getD_at hy] at this
    exact nodup_inj hnd hx hy this

theorem sub_out (O : VOk (F.vc σ τ lim us K dr os m₀ i₀)) (D : Rep (F.vc σ τ lim us K dr os m₀ i₀) s R m i) (hjs : ∀ j ∈ js, (R.get j).isSome = true)
    {lim' : Nat} {us' : List Use} {R₁ R₂ : KT} {d e : Nat} {s' : Shared}
    (D' : Rep (F.vc (inσ σ m js) (inτ τ i) lim' us' (inK σ js s) dr os js.length 0) s' R₁ (js.length + d) e)
    (h₂ : ∀ j o, R₂.get j = some o → (∃ x, x < js.length ∧ j = js.getD x 0 ∧ R₁.get x = some o) ∨ (∃ y, j = m + y ∧ R₁.get (js.length + y) = some o) ∨ (j ∉ js ∧ R.get j = some o)) :
    Rep (F.vc σ τ lim us K dr os m₀ i₀) s' R₂ (m + d) (i + e) := by
  have lσ : ∀ y, σ (m + y) = σ m + y := linear (fun j h => by have := O.adr j h; have : σ (j + 1) + 417 = σ j + 417 + 1 := this; omega) D.hm
  have lτ : ∀ y, τ (i + y) = τ i + y := linear (fun j h => O.tok j h) D.hi
  have new : ∀ y, inσ σ m js (js.length + y) = σ (m + y) := fun y => by
    unfold inσ
    rw [if_neg (by omega), lσ]; omega
  have old : ∀ x, x < js.length → inσ σ m js x = σ (js.getD x 0) := fun x h => by unfold inσ; rw [if_pos h]
  have mem : ∀ x, x < js.length → js.getD x 0 ∈ js := fun x hx => by rw [getD_at hx]; exact List.getElem_mem hx
  have hsz : s.heap.objs.size = σ m + 417 := D.size
  have low : ∀ j, (R.get j).isSome = true → σ j < σ m := fun j hj => by
    obtain ⟨o, eo⟩ := Option.isSome_iff_exists.mp hj
    have : σ j + 417 < s.heap.objs.size := Heap.lt_size (D.own j o eo).2
    omega
  -- what an index of the outcome is: an old one or a new one
  have kind : ∀ j, (R₂.get j).isSome = true → (R.get j).isSome = true ∨ ∃ y, j = m + y := fun j hj => by
    obtain ⟨o, eo⟩ := Option.isSome_iff_exists.mp hj
    rcases h₂ j o eo with ⟨x, hx, rfl, _⟩ | ⟨y, rfl, _⟩ | ⟨_, q⟩
    · exact .inl (hjs _ (mem x hx))
    · exact .inr ⟨y, rfl⟩
    · exact .inl (by rw [q]; rfl)
  refine ⟨D'.gens, D'.drawn, D'.os, fun b o q => D'.keep b o (inK_keep D hjs b o q), ?_, ?_, ?_, ?_, fun j o q => ?_, fun j k hj hk q => ?_⟩
  · rw [D'.size]
    show inσ σ m js (js.length + d) + 417 = σ (m + d) + 417
    rw [new]
  · rw [D'.toks]
    show τ i + e = τ (i + e)
    rw [lτ]
  · exact Nat.le_trans D.hm (Nat.le_add_right _ _)
  · exact Nat.le_trans D.hi (Nat.le_add_right _ _)
  · show K (σ j + 417) = none ∧ s'.heap.get? (σ j + 417) = some o
    rcases h₂ j o q with ⟨x, hx, rfl, q'⟩ | ⟨y, rfl, q'⟩ | ⟨hj, q'⟩
    · obtain ⟨o', eo⟩ := Option.isSome_iff_exists.mp (hjs _ (mem x hx))
      refine ⟨(D.own _ o' eo).1, ?_⟩
      have z : s'.heap.get? (inσ σ m js x + 417) = some o := (D'.own x o q').2
      rw [old x hx] at z; exact z
    · have z : s'.heap.get? (inσ σ m js (js.length + y) + 417) = some o := (D'.own _ o q').2
      rw [new] at z
      refine ⟨?_, z⟩
      cases h : K (σ (m + y) + 417) with
      | none => rfl
      | some o' =>
        have : σ (m + y) + 417 < s.heap.objs.size := Heap.lt_size (D.keep _ o' h)
        rw [lσ] at this
        omega
    · refine ⟨(D.own j o q').1, D'.keep _ o ?_⟩
      show inK σ js s (σ j + 417) = some o
      unfold inK
      rw [if_neg]
      · exact (D.own j o q').2
      · rintro ⟨j', hj', e'⟩
        have := D.inj j j' (by rw [q']; rfl) (hjs j' hj') e'
        exact hj (this ▸ hj')
  · have q' : σ j + 417 = σ k + 417 := q
    rcases kind j hj with h | ⟨y, rfl⟩ <;> rcases kind k hk with h' | ⟨y', rfl⟩
    · exact D.inj j k h h' q
    · have := low j h; rw [lσ] at q'; omega
    · have := low k h'; rw [lσ] at q'; omega
    · rw [lσ, lσ] at q'; omega
end
end Mine
end
section
set_option maxRecDepth 100000
namespace Mine
open PySem PySem.W PySem.W.X

structure Vals where
  t : Nat → Tok
  s : Nat → Str
  i : Nat → Int
  b : Nat → Bool
  r : Nat → Addr
  a : Nat → Array Value
  e : Nat → Array DictEntry
  n : Nat → Nat
  v : Nat → Value

noncomputable def UseOk (C : VC) (u : Use) : Prop := idxOk u.outs = true → ∀ s R, Rep C s R u.m u.i → (∀ p ∈ u.ins, R.get p.1 = some p.2) → ∀ n κ, n < C.V.lim →
  (∀ s', Rep C s' (putL R u.outs) (u.m + u.d) (u.i + u.e) → Post C.M κ u.r s') → GoodC C.M (n + 1) none κ u.code s
theorem uses_nil {C : VC} (h : C.V.us = []) : UsesOk C := fun u hu => by rw [h] at hu; nomatch hu
theorem uses_all {C : VC} (h : ∀ u ∈ C.V.us, UseOk C u) : UsesOk C := h
theorem all_nil {C : VC} : ∀ u ∈ ([] : List Use), UseOk C u := fun _ h => nomatch h
theorem all_cons {C : VC} {u : Use} {l : List Use} (h : UseOk C u) (k : ∀ u ∈ l, UseOk C u) : ∀ v ∈ u :: l, UseOk C v := fun v hv => by
  rcases List.mem_cons.mp hv with rfl | hv
  · exact h
  · exact k v hv

/-- where a run starts, where it ends -/
inductive St where
  | code (c : Code)
  | tree (t : Sem Fin)
inductive Fn where
  | res (r : Result)
  | tree (t : Sem Fin)

/-- a piece of the run, in its own numbering: L objects handed in -/
structure Seg where
  L : Nat
  start : Params → KT → (Nat → Nat) → Vals → St
  ins : Params → (Nat → Nat) → Vals → List Obj
  xs : List Nat
  outs : Params → (Nat → Nat) → (Nat → Nat) → Vals → List Obj
  fin : Params → KT → (Nat → Nat) → (Nat → Nat) → Vals → Fn
  d : Nat
  e : Nat
  n0 : Nat
  lim : Nat
  N : Bool → Nat
  sc : Bool → List Nat
  us : Params → KT → (Nat → Nat) → (Nat → Nat) → Vals → List Use

noncomputable def initT : Nat → List Obj → KT → KT
  | _, [], R => R
  | k, o :: l, R => initT (k + 1) l (putT 17 R k o)
noncomputable def Out.view2 (n0 : Nat) (js : List Nat) : Out → Option (Fn × Nat × Option Value × TK × List (Option Obj) × Nat × Nat)
  | .res κ r R m i _ _ => some (.res r, n0, none, κ, js.map R.get, m, i)
  | .at n hd κ md R m i _ _ _ => match md with
    | .nor t => some (.tree t, n, hd, κ, js.map R.get, m, i)
    | _ => none
  | _ => none
/-- the same, but no code may follow another in place at the piece's own level -/
noncomputable def vOfT (kt : Params → KT) (P : Params) (b c : Bool) (σ τ : Nat → Nat) (lim : Nat) (us : List Use) : RV := { vOf kt P b c σ τ lim us with ag := false }
noncomputable def Seg.go (S : Seg) (kt : Params → KT) (P : Params) (b c : Bool) (σ τ : Nat → Nat) (x : Vals) (W : Ctx → Prop) (Q : Result → Shared → Prop) : Out := match S.start P (kt P) σ x with
  | .code cd => codeR (vOf kt P b c σ τ S.lim (S.us P (kt P) σ τ x)) (runR (vOf kt P b c σ τ S.lim (S.us P (kt P) σ τ x)) (S.N c)) S.n0 none (.base W Q) cd (initT 0 (S.ins P σ x) .nil) S.L 0 (S.sc c) [] []
  | .tree t => runR (vOfT kt P b c σ τ S.lim (S.us P (kt P) σ τ x)) (S.N c) S.n0 none (.base W Q) (.nor t) (initT 0 (S.ins P σ x) .nil) S.L 0 (S.sc c) [] []
noncomputable def Seg.Run (S : Seg) (kt : Params → KT) : Prop := ∀ (P : Params) (b c : Bool) (σ τ : Nat → Nat) (x : Vals) (W : Ctx → Prop) (Q : Result → Shared → Prop),
  ((S.go kt P b c σ τ x W Q).lhs, (S.go kt P b c σ τ x W Q).view2 S.n0 S.xs) = ((S.go kt P b c σ τ x W Q).rhs, some (S.fin P (kt P) σ τ x, S.n0, none, .base W Q, (S.outs P σ τ x).map some, S.L + S.d, S.e))

noncomputable def tgt (js : List Nat) (m x : Nat) : Nat := match Nat.blt x js.length with
  | true => js.getD x 0
  | false => m + (x - js.length)
theorem tgt_lt {js : List Nat} {m x : Nat} (h : x < js.length) : tgt js m x = js.getD x 0 := by
  unfold tgt
  rw [show Nat.blt x js.length = true from Nat.ble_eq_true_of_le h]
theorem tgt_ge {js : List Nat} {m x : Nat} (h : ¬ x < js.length) : tgt js m x = m + (x - js.length) := by
  unfold tgt
  have : Nat.blt x js.length = false := by
    cases b : Nat.blt x js.length with
    | false => rfl
    | true => exact absurd (Nat.le_of_ble_eq_true b) h
  rw [this]

theorem zip_mem {α β : Type} : ∀ {l : List α} {l' : List β} {f : α → Option β} {g : α → Nat}, l.map f = l'.map some → ∀ {j b}, (j, b) ∈ (l.map g).zip l' → ∃ x ∈ l, j = g x ∧ f x = some b
  | [], _, _, _, _, _, _, h => by simp at h
  | a :: l, [], _, _, h, _, _, _ => by simp at h
  | a :: l, b :: l', f, g, h, j, o, hm => by
    simp only [List.map_cons, List.cons.injEq] at h
    simp only [List.map_cons, List.zip_cons_cons, List.mem_cons, Prod.mk.injEq] at hm
    rcases hm with ⟨rfl, rfl⟩ | hm
    · exact ⟨a, List.mem_cons_self, rfl, h.1⟩
    · obtain ⟨x, hx, e⟩ := zip_mem h.2 hm
      exact ⟨x, List.mem_cons_of_mem _ hx, e⟩
theorem zip_key {α β : Type} : ∀ {l : List α} {l' : List β} {f : α → Option β} (g : α → Nat), l.map f = l'.map some → ∀ {x}, x ∈ l → ∃ b, (g x, b) ∈ (l.map g).zip l'
  | [], _, _, _, _, _, h => nomatch h
  | a :: l, [], _, _, h, _, _ => by simp at h
  | a :: l, b :: l', f, g, h, x, hm => by
    simp only [List.map_cons, List.cons.injEq] at h
    rcases List.mem_cons.mp hm with rfl | hm
    · exact ⟨b, by simp⟩
    · obtain ⟨o, ho⟩ := zip_key g h.2 hm
      exact ⟨o, by simp only [List.map_cons, List.zip_cons_cons]; exact List.mem_cons_of_mem _ ho⟩
theorem getD_mem {js : List Nat} {x : Nat} (h : x < js.length) : js.getD x 0 ∈ js := by rw [getD_at h]; exact List.getElem_mem h
theorem zip_at : ∀ {js : List Nat} {os : List Obj} {k : Nat} {o : Obj}, js.length = os.length → os[k]? = some o → (js.getD k 0, o) ∈ js.zip os
  | [], [], k, o, _, e => by simp at e
  | j :: js, o' :: os, 0, o, _, e => by simp at e; subst e; simp
  | j :: js, o' :: os, k + 1, o, h, e => by
    simp only [List.getElem?_cons_succ] at e
    have := zip_at (js := js) (os := os) (k := k) (by simpa using h) e
    simp only [List.getD_cons_succ, List.zip_cons_cons]
    exact List.mem_cons_of_mem _ this
  | [], _ :: _, _, _, h, _ => by simp at h
  | _ :: _, [], _, _, h, _ => by simp at h
theorem get_initT : ∀ (l : List Obj) (k : Nat) (R : KT) (x : Nat) (o : Obj), k + l.length ≤ 65536 → (initT k l R).get x = some o → (k ≤ x ∧ l[x - k]? = some o) ∨ R.get x = some o
  | [], _, _, _, _, _, e => .inr e
  | a :: l, k, R, x, o, h, e => by
    have h' : k + 1 + l.length ≤ 65536 := by simp only [List.length_cons] at h; omega
    rcases get_initT l (k + 1) _ x o h' e with ⟨h1, h2⟩ | h2
    · refine .inl ⟨by omega, ?_⟩
      rw [show x - k = (x - (k + 1)) + 1 by omega, List.getElem?_cons_succ]; exact h2
    · rw [get_putT a 16 R k (by simp only [List.length_cons] at h; show k < 65536; omega)] at h2
      by_cases q : x = k
      · subst q
        rw [if_pos rfl] at h2
        cases h2
        exact .inl ⟨Nat.le_refl _, by simp⟩
      · rw [if_neg q] at h2; exact .inr h2

theorem view2_some {o : Out} {n0 : Nat} {xs : List Nat} {f : Fn} {W : Ctx → Prop} {Q : Result → Shared → Prop} {objs : List (Option Obj)} {m i : Nat} (h : (o.lhs, o.view2 n0 xs) = (o.rhs, some (f, n0, none, .base W Q, objs, m, i))) :
    ∃ R, xs.map R.get = objs ∧ o.fair ∧ ((∃ r ps, f = .res r ∧ o = .res (.base W Q) r R m i ps ps) ∨ ∃ t sc ps, f = .tree t ∧ o = .at n0 none (.base W Q) (.nor t) R m i sc ps ps) := by
  injection h with h1 h2
  cases o with
  | res κ' r' R m' i' ps qs =>
    have h1 : ps = qs := h1
    subst h1
    simp only [Out.view2, Option.some.injEq, Prod.mk.injEq] at h2
    obtain ⟨rfl, _, _, rfl, rfl, rfl, rfl⟩ := h2
    exact ⟨R, rfl, rfl, .inl ⟨_, _, rfl, rfl⟩⟩
  | «at» n hd κ md R m' i' sc ps qs =>
    have h1 : ps = qs := h1
    subst h1
    cases md with
    | ent => cases h2
    | nor t =>
      simp only [Out.view2, Option.some.injEq, Prod.mk.injEq] at h2
      obtain ⟨rfl, rfl, rfl, rfl, rfl, rfl, rfl⟩ := h2
      exact ⟨R, rfl, rfl, .inr ⟨_, _, _, rfl, rfl⟩⟩
  | _ => cases h2

theorem Ok.mono' {n n' : Nat} {hd : Option Value} {Γ : Ctx} (h : Ok n hd Γ) (l : n ≤ n') : Ok n' hd Γ := h.mono l
/-- a tree, or a code, comes to its end under any stack of at most 70 calls -/
noncomputable def GoodS (M : Model) (n : Nat) (κ : TK) : St → Shared → Prop
  | .code c, s => GoodC M n none κ c s
  | .tree t, s => Good M n none κ t s
noncomputable def GoodF (M : Model) (n : Nat) (κ : TK) : Fn → Shared → Prop
  | .res r, s => Post M κ r s
  | .tree t, s => Good M n none κ t s
theorem Good.mono {M : Model} {n n' : Nat} {hd : Option Value} {κ : TK} {t : Sem Fin} {s : Shared} (h : Good M n' hd κ t s) (l : n ≤ n') : Good M n hd κ t s := fun Γ p o w => h Γ p (o.mono l) w
theorem GoodF.mono {M : Model} {n n' : Nat} {κ : TK} {f : Fn} {s : Shared} (h : GoodF M n' κ f s) (l : n ≤ n') : GoodF M n κ f s := by
  cases f with
  | res => exact h
  | tree t => exact Good.mono (t := t) h l

section
variable {F : Fix} {σ τ : Nat → Nat} {lim : Nat} {us : List Use} {K : Addr → Option Obj} {dr : Drawn} {os : OsState} {m₀ i₀ : Nat}
theorem inσ_eq {σ : Nat → Nat} {m₀ m : Nat} (h : ∀ j, m₀ ≤ j → σ (j + 1) = σ j + 1) (hm : m₀ ≤ m) (js : List Nat) : inσ σ m js = fun x => σ (tgt js m x) := funext fun x => by
  unfold inσ
  by_cases b : x < js.length
  · rw [if_pos b, tgt_lt b]
  · rw [if_neg b, tgt_ge b]
    exact (linear h hm _).symm
theorem inτ_eq {τ : Nat → Nat} {i₀ i : Nat} (h : ∀ j, i₀ ≤ j → τ (j + 1) = τ j + 1) (hi : i₀ ≤ i) : inτ τ i = fun x => τ (i + x) := funext fun x => (linear h hi x).symm

noncomputable def Seg.σ' (σ : Nat → Nat) (js : List Nat) (m : Nat) : Nat → Nat := fun x => σ (tgt js m x)
noncomputable def Seg.τ' (τ : Nat → Nat) (i : Nat) : Nat → Nat := fun x => τ (i + x)
noncomputable def Seg.insAt (S : Seg) (P : Params) (σ : Nat → Nat) (m : Nat) (js : List Nat) (x : Vals) : List (Nat × Obj) := js.zip (S.ins P (Seg.σ' σ js m) x)
noncomputable def Seg.outsAt (S : Seg) (P : Params) (σ τ : Nat → Nat) (m i : Nat) (js : List Nat) (x : Vals) : List (Nat × Obj) := (S.xs.map (tgt js m)).zip (S.outs P (Seg.σ' σ js m) (Seg.τ' τ i) x)

theorem vok_ag {C : VC} (O : VOk C) (b : Bool) : VOk { C with V := { C.V with ag := b } } := ⟨O.den, O.quiet, O.pre, O.prog, O.params, O.kt, O.nolimit, O.table, O.adr, O.tok⟩
theorem rep_ag {C : VC} {s : Shared} {R : KT} {m i : Nat} (D : Rep C s R m i) (b : Bool) : Rep { C with V := { C.V with ag := b } } s R m i := ⟨D.gens, D.drawn, D.os, D.keep, D.size, D.toks, D.hm, D.hi, D.own, D.inj⟩
theorem rep_ga {C : VC} {s : Shared} {R : KT} {m i : Nat} {b : Bool} (D : Rep { C with V := { C.V with ag := b } } s R m i) : Rep C s R m i := ⟨D.gens, D.drawn, D.os, D.keep, D.size, D.toks, D.hm, D.hi, D.own, D.inj⟩
theorem uses_ag {C : VC} (U : UsesOk C) (b : Bool) : UsesOk { C with V := { C.V with ag := b } } := fun u hu hidx s R D hins n κ hn hk => U u hu hidx s R (rep_ga D) hins n κ hn fun s' D' => hk s' (rep_ag D' b)
/-- what a run of a piece says -/
theorem Seg.sound {S : Seg} (run : S.Run F.kt) (H : F.Ok) (O : VOk (F.vc σ τ lim us K dr os m₀ i₀)) {js : List Nat} {m i : Nat} {x : Vals} (hnd : js.Nodup) (hL : js.length = S.L)
    (hL' : (S.ins F.w.params (Seg.σ' σ js m) x).length = S.L) (hL2 : S.L ≤ 1000) (hxs : ∀ y, y < S.L → y ∈ S.xs)
    (hus : ∀ K', VOk (F.vc (Seg.σ' σ js m) (Seg.τ' τ i) S.lim (S.us F.w.params (F.kt F.w.params) (Seg.σ' σ js m) (Seg.τ' τ i) x) K' dr os js.length 0) → UsesOk (F.vc (Seg.σ' σ js m) (Seg.τ' τ i) S.lim (S.us F.w.params (F.kt F.w.params) (Seg.σ' σ js m) (Seg.τ' τ i) x) K' dr os js.length 0))
    (hidx : idxOk (S.outsAt F.w.params σ τ m i js x) = true)
    {s : Shared} {R : KT} (D : Rep (F.vc σ τ lim us K dr os m₀ i₀) s R m i) (hins : ∀ p ∈ S.insAt F.w.params σ m js x, R.get p.1 = some p.2) {n : Nat} {κ : TK} (hI : (∃ c, S.start F.w.params (F.kt F.w.params) (Seg.σ' σ js m) x = .code c) → κ.Inv) (hn : n ≤ S.n0)
    (hk : ∀ s', Rep (F.vc σ τ lim us K dr os m₀ i₀) s' (putL R (S.outsAt F.w.params σ τ m i js x)) (m + S.d) (i + S.e) →
      GoodF (model PySem.Challenge.pw_rg0017_01 F.w) S.n0 κ (S.fin F.w.params (F.kt F.w.params) (Seg.σ' σ js m) (Seg.τ' τ i) x) s') :
    GoodS (model PySem.Challenge.pw_rg0017_01 F.w) n κ (S.start F.w.params (F.kt F.w.params) (Seg.σ' σ js m) x) s := by
  have hjs' : ∀ j ∈ js, (R.get j).isSome = true := fun j hj => by
    obtain ⟨k, hk, e⟩ := List.mem_iff_getElem.mp hj
    have hk' : k < (S.ins F.w.params (Seg.σ' σ js m) x).length := by omega
    have := hins (js.getD k 0, (S.ins F.w.params (Seg.σ' σ js m) x)[k]) (zip_at (by omega) (by simp [hk']))
    have e' : js.getD k 0 = j := by rw [getD_at hk, e]
    rw [e'] at this
    rw [this]; rfl
  have es : inσ σ m js = Seg.σ' σ js m := inσ_eq (fun j h => by have := O.adr j h; have : σ (j + 1) + 417 = σ j + 417 + 1 := this; omega) D.hm js
  have et : inτ τ i = Seg.τ' τ i := inτ_eq (fun j h => O.tok j h) D.hi
  have O' := sub_vok (lim' := S.lim) (us' := S.us F.w.params (F.kt F.w.params) (Seg.σ' σ js m) (Seg.τ' τ i) x) H O D hjs'
  have h0 : ∀ y o, (initT 0 (S.ins F.w.params (Seg.σ' σ js m) x) .nil).get y = some o → y < js.length ∧ R.get (js.getD y 0) = some o := fun y o e => by
    rcases get_initT _ 0 .nil y o (by omega) e with ⟨_, h⟩ | h
    · have hy : y < (S.ins F.w.params (Seg.σ' σ js m) x).length := by
        have := List.getElem?_eq_some_iff.mp h
        obtain ⟨q, _⟩ := this
        simpa using q
      refine ⟨by omega, ?_⟩
      exact hins (js.getD y 0, o) (zip_at (by omega) (by simpa using h))
    · exact absurd h (by rw [get_nil]; exact fun e => nomatch e)
  have D' := sub_in (lim' := S.lim) (us' := S.us F.w.params (F.kt F.w.params) (Seg.σ' σ js m) (Seg.τ' τ i) x) D hjs' hnd h0
  rw [es, et] at O' D'
  have U' := hus _ O'
  obtain ⟨R₁, hv, hf, hend⟩ := view2_some (run F.w.params F.b F.c (Seg.σ' σ js m) (Seg.τ' τ i) x κ.W (Post (model PySem.Challenge.pw_rg0017_01 F.w) κ))
  have back : ∀ s', Rep (F.vc (Seg.σ' σ js m) (Seg.τ' τ i) S.lim (S.us F.w.params (F.kt F.w.params) (Seg.σ' σ js m) (Seg.τ' τ i) x) (inK σ js s) dr os js.length 0) s' R₁ (S.L + S.d) S.e →
      Rep (F.vc σ τ lim us K dr os m₀ i₀) s' (putL R (S.outsAt F.w.params σ τ m i js x)) (m + S.d) (i + S.e) := fun s' D'' => by
    rw [← es, ← et, ← hL] at D''
    refine sub_out O D hjs' D'' fun j o q => ?_
    rcases get_putL _ _ hidx j o q with hm | ⟨h1, h2⟩
    · obtain ⟨y, hy, rfl, ho⟩ := zip_mem hv hm
      by_cases b : y < js.length
      · exact .inl ⟨y, b, tgt_lt b, ho⟩
      · refine .inr (.inl ⟨y - js.length, tgt_ge b, ?_⟩)
        rw [show js.length + (y - js.length) = y by omega]
        exact ho
    · refine .inr (.inr ⟨fun hj => ?_, h2⟩)
      obtain ⟨y, hy, e'⟩ := List.mem_iff_getElem.mp hj
      obtain ⟨b, hb⟩ := zip_key (tgt js m) hv (hxs y (by omega))
      refine h1 _ hb ?_
      show tgt js m y = j
      rw [tgt_lt hy, getD_at hy, e']
  have fin : ∀ (o : Out), o = S.go F.kt F.w.params F.b F.c (Seg.σ' σ js m) (Seg.τ' τ i) x κ.W (Post (model PySem.Challenge.pw_rg0017_01 F.w) κ) → o.Next (F.vc (Seg.σ' σ js m) (Seg.τ' τ i) S.lim (S.us F.w.params (F.kt F.w.params) (Seg.σ' σ js m) (Seg.τ' τ i) x) (inK σ js s) dr os js.length 0) := fun o ho => by
    rcases hend with ⟨r, ps, ef, eo⟩ | ⟨t, sc, ps, ef, eo⟩
    · rw [ho, eo]
      intro s' D''
      have z := hk s' (back s' D'')
      rw [ef] at z
      exact z
    · rw [ho, eo]
      intro s' D'' Γ p ok w
      have z := hk s' (back s' D'')
      rw [ef] at z
      exact z Γ p ok w
  have ho := fin _ rfl
  cases hst : S.start F.w.params (F.kt F.w.params) (Seg.σ' σ js m) x with
  | code c =>
    have G := codeR_sound O' (runR_sound O' U' (S.N F.c)) (n := S.n0) (hd := none) (κ := .base κ.W (Post (model PySem.Challenge.pw_rg0017_01 F.w) κ)) (c := c) (R := initT 0 (S.ins F.w.params (Seg.σ' σ js m) x) .nil) (m := js.length) (i := 0) (sc := S.sc F.c) (ps := []) (qs := [])
    have e : codeR (F.vc (Seg.σ' σ js m) (Seg.τ' τ i) S.lim (S.us F.w.params (F.kt F.w.params) (Seg.σ' σ js m) (Seg.τ' τ i) x) (inK σ js s) dr os js.length 0).V (runR (F.vc (Seg.σ' σ js m) (Seg.τ' τ i) S.lim (S.us F.w.params (F.kt F.w.params) (Seg.σ' σ js m) (Seg.τ' τ i) x) (inK σ js s) dr os js.length 0).V (S.N F.c)) S.n0 none (.base κ.W (Post (model PySem.Challenge.pw_rg0017_01 F.w) κ)) c (initT 0 (S.ins F.w.params (Seg.σ' σ js m) x) .nil) js.length 0 (S.sc F.c) [] [] =
        S.go F.kt F.w.params F.b F.c (Seg.σ' σ js m) (Seg.τ' τ i) x κ.W (Post (model PySem.Challenge.pw_rg0017_01 F.w) κ) := by
      unfold Seg.go
      rw [hst, hL]; rfl
    rw [e] at G
    have G2 := (G hf).2 (fun _ => hI ⟨c, hst⟩) ho s D'
    exact GoodC.mono (n' := S.n0) (fun Γ p o w q => G2 Γ p o w q) hn
  | tree t =>
    have e : runR (vOfT F.kt F.w.params F.b F.c (Seg.σ' σ js m) (Seg.τ' τ i) S.lim (S.us F.w.params (F.kt F.w.params) (Seg.σ' σ js m) (Seg.τ' τ i) x)) (S.N F.c) S.n0 none (.base κ.W (Post (model PySem.Challenge.pw_rg0017_01 F.w) κ)) (.nor t) (initT 0 (S.ins F.w.params (Seg.σ' σ js m) x) .nil) js.length 0 (S.sc F.c) [] [] = S.go F.kt F.w.params F.b F.c (Seg.σ' σ js m) (Seg.τ' τ i) x κ.W (Post (model PySem.Challenge.pw_rg0017_01 F.w) κ) := by
      unfold Seg.go
      rw [hst, hL]
    have G : (S.go F.kt F.w.params F.b F.c (Seg.σ' σ js m) (Seg.τ' τ i) x κ.W (Post (model PySem.Challenge.pw_rg0017_01 F.w) κ)).fair → ([] : List It) = [] ∧ ((TK.base κ.W (Post (model PySem.Challenge.pw_rg0017_01 F.w) κ)).Fit false → (S.go F.kt F.w.params F.b F.c (Seg.σ' σ js m) (Seg.τ' τ i) x κ.W (Post (model PySem.Challenge.pw_rg0017_01 F.w) κ)).Next { (F.vc (Seg.σ' σ js m) (Seg.τ' τ i) S.lim (S.us F.w.params (F.kt F.w.params) (Seg.σ' σ js m) (Seg.τ' τ i) x) (inK σ js s) dr os js.length 0) with V := vOfT F.kt F.w.params F.b F.c (Seg.σ' σ js m) (Seg.τ' τ i) S.lim (S.us F.w.params (F.kt F.w.params) (Seg.σ' σ js m) (Seg.τ' τ i) x) } → ∀ s', Rep { (F.vc (Seg.σ' σ js m) (Seg.τ' τ i) S.lim (S.us F.w.params (F.kt F.w.params) (Seg.σ' σ js m) (Seg.τ' τ i) x) (inK σ js s) dr os js.length 0) with V := vOfT F.kt F.w.params F.b F.c (Seg.σ' σ js m) (Seg.τ' τ i) S.lim (S.us F.w.params (F.kt F.w.params) (Seg.σ' σ js m) (Seg.τ' τ i) x) } s' (initT 0 (S.ins F.w.params (Seg.σ' σ js m) x) .nil) js.length 0 → Good (model PySem.Challenge.pw_rg0017_01 F.w) S.n0 none (.base κ.W (Post (model PySem.Challenge.pw_rg0017_01 F.w) κ)) (Md.nor t).act s') := by
      rw [← e]
      exact runR_sound (C := { (F.vc (Seg.σ' σ js m) (Seg.τ' τ i) S.lim (S.us F.w.params (F.kt F.w.params) (Seg.σ' σ js m) (Seg.τ' τ i) x) (inK σ js s) dr os js.length 0) with V := vOfT F.kt F.w.params F.b F.c (Seg.σ' σ js m) (Seg.τ' τ i) S.lim (S.us F.w.params (F.kt F.w.params) (Seg.σ' σ js m) (Seg.τ' τ i) x) }) (vok_ag O' false) (uses_ag U' false) (S.N F.c) S.n0 none (.base κ.W (Post (model PySem.Challenge.pw_rg0017_01 F.w) κ)) (.nor t) (initT 0 (S.ins F.w.params (Seg.σ' σ js m) x) .nil) js.length 0 (S.sc F.c) [] []
    have ho' : (S.go F.kt F.w.params F.b F.c (Seg.σ' σ js m) (Seg.τ' τ i) x κ.W (Post (model PySem.Challenge.pw_rg0017_01 F.w) κ)).Next { (F.vc (Seg.σ' σ js m) (Seg.τ' τ i) S.lim (S.us F.w.params (F.kt F.w.params) (Seg.σ' σ js m) (Seg.τ' τ i) x) (inK σ js s) dr os js.length 0) with V := vOfT F.kt F.w.params F.b F.c (Seg.σ' σ js m) (Seg.τ' τ i) S.lim (S.us F.w.params (F.kt F.w.params) (Seg.σ' σ js m) (Seg.τ' τ i) x) } := by
      revert ho
      generalize S.go F.kt F.w.params F.b F.c (Seg.σ' σ js m) (Seg.τ' τ i) x κ.W (Post (model PySem.Challenge.pw_rg0017_01 F.w) κ) = o
      intro ho
      cases o with
      | res => exact fun s' D'' => ho s' (rep_ga D'')
      | «at» => exact fun s' D'' => ho s' (rep_ga D'')
      | _ => exact ho
    have G2 := (G hf).2 (fun h => nomatch h) ho' s (rep_ag D' false)
    exact Good.mono (n' := S.n0) (fun Γ p o w => G2 Γ p o w) hn

/-- a piece from a code to a result, as a known call -/
noncomputable def Seg.use (S : Seg) (P : Params) (T : KT) (σ τ : Nat → Nat) (m i : Nat) (js : List Nat) (x : Vals) : Use :=
  ⟨match S.start P T (Seg.σ' σ js m) x with | .code c => c | .tree _ => default, m, i, S.insAt P σ m js x, match S.fin P T (Seg.σ' σ js m) (Seg.τ' τ i) x with | .res r => r | .tree _ => .ok .next, S.outsAt P σ τ m i js x, S.d, S.e⟩
theorem Seg.useOk {S : Seg} (run : S.Run F.kt) (H : F.Ok) (O : VOk (F.vc σ τ lim us K dr os m₀ i₀)) {js : List Nat} {m i : Nat} {x : Vals} (hnd : js.Nodup) (hL : js.length = S.L)
    (hL' : (S.ins F.w.params (Seg.σ' σ js m) x).length = S.L) (hL2 : S.L ≤ 1000) (hxs : ∀ y, y < S.L → y ∈ S.xs) (hlim : lim ≤ S.n0)
    (hc : ∃ c, S.start F.w.params (F.kt F.w.params) (Seg.σ' σ js m) x = .code c) (hr : ∃ r, S.fin F.w.params (F.kt F.w.params) (Seg.σ' σ js m) (Seg.τ' τ i) x = .res r)
    (hus : ∀ K', VOk (F.vc (Seg.σ' σ js m) (Seg.τ' τ i) S.lim (S.us F.w.params (F.kt F.w.params) (Seg.σ' σ js m) (Seg.τ' τ i) x) K' dr os js.length 0) → UsesOk (F.vc (Seg.σ' σ js m) (Seg.τ' τ i) S.lim (S.us F.w.params (F.kt F.w.params) (Seg.σ' σ js m) (Seg.τ' τ i) x) K' dr os js.length 0)) :
    UseOk (F.vc σ τ lim us K dr os m₀ i₀) (S.use F.w.params (F.kt F.w.params) σ τ m i js x) := fun hidx s R D hins n κ hn hk => by
  obtain ⟨c, hc⟩ := hc
  obtain ⟨r, hr⟩ := hr
  have hn : n < lim := hn
  have z := Seg.sound (n := n + 1) (κ := .base (fun _ => True) (Post (model PySem.Challenge.pw_rg0017_01 F.w) κ)) run H O hnd hL hL' hL2 hxs hus hidx D hins (fun _ _ _ _ => trivial) (by omega) fun s' D' => by
    have y := hk s' D'
    rw [hr]
    have e : (S.use F.w.params (F.kt F.w.params) σ τ m i js x).r = r := by unfold Seg.use; rw [hr]
    rw [e] at y
    exact y
  rw [hc] at z
  have e : (S.use F.w.params (F.kt F.w.params) σ τ m i js x).code = c := by unfold Seg.use; rw [hc]
  rw [e]
  exact fun Γ p o _ q => z Γ p o trivial q
end
end Mine
end
section
set_option maxRecDepth 100000
namespace Mine
open PySem PySem.W PySem.W.X

noncomputable def belowA (Γ : Ctx) : Around := { handled := Γ.handled, depth := frameCount Γ.below, frames := none, guards := none, units := unitsOf Γ.below }
/-- what the library says of a code under any stack, it says under this one -/
theorem goodC_of_any {M : Model} {n : Nat} {hd : Option Value} {κ : TK} {c : Code} {s : Shared} (h : ∀ A : Around, A.handled = hd → A.units ≤ 4 + 10 * n → codeAny M A c (Post M κ) s) : GoodC M n hd κ c s :=
  fun Γ p hΓ _ hc => h (belowA Γ) hΓ.handled hΓ.units Γ p hc ⟨rfl, Nat.le_refl _, fun _ h => (nomatch h), fun _ h => (nomatch h), Nat.le_refl _⟩

theorem idxOk_head {j : Nat} {o : Obj} {l : List (Nat × Obj)} (h : idxOk ((j, o) :: l) = true) : j < 65536 := by
  unfold idxOk at h
  cases b : Nat.blt j 65536 with
  | true => exact Nat.le_of_ble_eq_true b
  | false => rw [b] at h; cases h

section
variable {F : Fix} {σ τ : Nat → Nat} {lim : Nat} {us : List Use} {K : Addr → Option Obj} {dr : Drawn} {os : OsState} {m₀ i₀ : Nat}
noncomputable def listNewUse (σ : Nat → Nat) (m i : Nat) (a : Value) : Use :=
  ⟨.call (.builtin "list.__new__") ⟨[.type "list", a], []⟩, m, i, [], .ok (.ret (.ref (σ m + 417))), [(m, { cls := .type "list", data := .seq #[] })], 1, 0⟩
theorem listNew_use (O : VOk (F.vc σ τ lim us K dr os m₀ i₀)) (m i : Nat) (a : Value) : UseOk (F.vc σ τ lim us K dr os m₀ i₀) (listNewUse σ m i a) := fun hidx s R D _ n κ _ hk =>
  goodC_of_any fun A _ _ => codeAny_mono (code_list_new (E := fun _ _ => False) a (Q₁ := fun v s' => v = .ref s.heap.objs.size ∧ s' = { s with heap := s.heap.push { cls := .type "list", data := .seq #[] } }) ⟨rfl, rfl⟩) fun r s' h => by
    have hm : m < 65536 := idxOk_head hidx
    cases r with
    | error e => exact h.elim
    | ok f =>
      cases f with
      | ret v =>
        obtain ⟨rfl, rfl⟩ := h
        have z := hk _ (D.alloc O (o := { cls := .type "list", data := .seq #[] }) rfl hm)
        have es : s.heap.objs.size = σ m + 417 := D.size
        rw [es]
        exact z
      | _ => exact h.elim
noncomputable def listInitUse (σ : Nat → Nat) (m i jS jT : Nat) (o : Obj) (items : Array Value) : Use :=
  ⟨.call (.builtin "list.__init__") ⟨[.ref (σ jS + 417), .ref (σ jT + 417)], []⟩, m, i, [(jS, { cls := .type "list", data := .seq #[] }), (jT, o)], .ok (.ret .none),
    [(jS, Obj.mapSeq (· ++ items) (Obj.mapSeq (fun _ => (#[] : Array Value)) { cls := .type "list", data := .seq #[] }))], 0, 0⟩
theorem listInit_use (O : VOk (F.vc σ τ lim us K dr os m₀ i₀)) (m i jS jT : Nat) {o : Obj} {items : Array Value} {k : Nat} {T : String} (hT : T = "list" ∨ T = "tuple") (hc : o.cls = .type T) (hd : o.data = .seq items k) (hne : jT ≠ jS) (hz : items.size ≤ 64) :
    UseOk (F.vc σ τ lim us K dr os m₀ i₀) (listInitUse σ m i jS jT o items) := fun hidx s R D hins n κ _ hk =>
  goodC_of_any fun A _ _ => by
    have eS := hins _ List.mem_cons_self
    have eT := hins _ (List.mem_cons_of_mem _ List.mem_cons_self)
    have hS : s.heap.get? (σ jS + 417) = some { cls := .type "list", data := .seq #[] } := (D.own jS _ eS).2
    have ho : s.heap.get? (σ jT + 417) = some o := (D.own jT o eT).2
    have ha : σ jT + 417 ≠ σ jS + 417 := fun e => hne (D.inj jT jS (by rw [eT]; rfl) (by rw [eS]; rfl) e)
    refine codeAny_call_builtin PySem.F.called_list.init.plain PySem.F.entry_list_init (PySem.F.called_list.init.check _ _ _ _ _ _ _ _ (show s.TypeIs (.ref (σ jS + 417)) "list" from ⟨_, hS, rfl⟩) (PySem.F.args_list_init_2 _ _)
      (wpAny_list_init_seq (hsz := Nat.le_trans hz (by decide +kernel)) _ _ hT ha hS ho hc hd ?_))
    have D1 := D.update (f := Obj.mapSeq (fun _ => (#[] : Array Value))) eS rfl (idxOk_head hidx)
    have D2 := D1.update (j := jS) (o := Obj.mapSeq (fun _ => (#[] : Array Value)) { cls := .type "list", data := .seq #[] }) (f := Obj.mapSeq (· ++ items)) (by rw [get_putT _ 16 R jS (idxOk_head hidx), if_pos rfl]) rfl (idxOk_head hidx)
    refine hk _ ?_
    refine ⟨D2.gens, D2.drawn, D2.os, D2.keep, D2.size, D2.toks, D2.hm, D2.hi, fun j o' e => D2.own j o' ?_, fun j k hj hk' e => D2.inj j k ?_ ?_ e⟩
    · rw [get_putT _ 16 _ jS (idxOk_head hidx), get_putT _ 16 _ jS (idxOk_head hidx)]
      have e : (putT 17 R jS _).get j = some o' := e
      rw [get_putT _ 16 _ jS (idxOk_head hidx)] at e
      by_cases h : j = jS
      · rw [if_pos h] at e ⊢; exact e
      · rw [if_neg h] at e ⊢; rw [if_neg h]; exact e
    · rw [get_putT _ 16 _ jS (idxOk_head hidx), get_putT _ 16 _ jS (idxOk_head hidx)]
      have hj : ((putT 17 R jS _).get j).isSome = true := hj
      rw [get_putT _ 16 _ jS (idxOk_head hidx)] at hj
      by_cases h : j = jS
      · rw [if_pos h]; rfl
      · rw [if_neg h] at hj ⊢; rw [if_neg h]; exact hj
    · rw [get_putT _ 16 _ jS (idxOk_head hidx), get_putT _ 16 _ jS (idxOk_head hidx)]
      have hk' : ((putT 17 R jS _).get k).isSome = true := hk'
      rw [get_putT _ 16 _ jS (idxOk_head hidx)] at hk'
      by_cases h : k = jS
      · rw [if_pos h]; rfl
      · rw [if_neg h] at hk' ⊢; rw [if_neg h]; exact hk'
end
end Mine
end
section
set_option maxRecDepth 100000
namespace Mine
open PySem PySem.W PySem.W.X

section
variable {prog : Program} {w : World} {A : Around} {E : Value → Shared → Prop} {s : Shared}
theorem dictFind_str {d : Addr} {o : Obj} {es : Array DictEntry} {ep : Nat} {x : Str} {t : Tok} {h : Int} {Q : Option Nat → Shared → Prop} (ho : s.heap.get? d = some o) (hd : o.data = .dict es ep)
    (hs : (es.all fun e => isExactStrKey e.key) = true) (hQ : Q (es.findIdx? fun e => e.key.isStr x) s) : wpAny (model prog w) A (dictFind d (.str x t) h) Q E s := by
  unfold dictFind
  try with_reducible refine wpAny_holding ?_
  refine wpAny_bind (wpAny_dictEntries ho hd ?_)
  dsimp only
  rw [if_pos hs]
  unfold foundByValue
  cases hf : es.findIdx? (fun e => e.key.isStr x) with
  | none =>
    rw [hf] at hQ
    exact wpAny_pure hQ
  | some i =>
    rw [hf] at hQ
    obtain ⟨hlt, hi, _⟩ := Array.findIdx?_eq_some_iff_getElem.mp hf
    simp only [Array.getElem?_eq_getElem hlt]
    refine wpAny_bind (wpAny_dictEpoch ho hd (wpAny_bind ((strKind prog w).eqBool (a := x) (b := x) ((((strKind prog w).strs x x t _ (strKind_is prog w x t)).trans hi)) (strKind_is prog w x t) (wpAny_bind (wpAny_dictEpoch ho hd ?_)))))
    show wpAny _ _ (if (ep != ep) = true then _ else _) _ E _
    rw [if_neg (by simp), decide_eq_true rfl]
    exact wpAny_bind (wpAny_rule (wpAny_pure hQ))
theorem dictGet_str {d : Addr} {o : Obj} {es : Array DictEntry} {ep : Nat} {x : Str} {t : Tok} {Q : Option Value → Shared → Prop} (ho : s.heap.get? d = some o) (hd : o.data = .dict es ep)
    (hs : (es.all fun e => isExactStrKey e.key) = true) (hQ : Q ((es.findIdx? fun e => e.key.isStr x).bind fun i => (es[i]?).map (·.val)) { s with toks := s.toks + 1 }) : wpAny (model prog w) A (dictGet d (.str x t)) Q E s := by
  unfold dictGet
  try with_reducible refine wpAny_holding ?_
  refine wpAny_bind (wpAny_pyHash_str (wpAny_bind (dictFind_str (s := { s with toks := s.toks + 1 }) ho hd hs ?_)))
  cases hi : es.findIdx? fun e => e.key.isStr x with
  | none => rw [hi] at hQ; exact wpAny_pure hQ
  | some i => rw [hi] at hQ; exact wpAny_bind (wpAny_dictEntries (s := { s with toks := s.toks + 1 }) ho hd (wpAny_pure hQ))
noncomputable def setS (es : Array DictEntry) (x : Str) (t : Tok) (h : Int) (v : Value) (o : Obj) : Obj := match es.findIdx? fun e => e.key.isStr x with
  | some i => Obj.mapDict (·.modify i fun e => { e with val := v }) o
  | none => Obj.mapDictKeys (·.push ⟨h, .str x t, v⟩) o
theorem dictSet_str {d : Addr} {o : Obj} {es : Array DictEntry} {ep : Nat} {x : Str} {t : Tok} {v : Value} {Q : Unit → Shared → Prop} (ho : s.heap.get? d = some o) (hd : o.data = .dict es ep)
    (hs : (es.all fun e => isExactStrKey e.key) = true) (hz : es.size ≤ sizeLine)
    (hQ : ∀ f : Obj → Obj, f o = setS es x t (hashStr w x) v o → Q () { s with heap := s.heap.update d f, toks := s.toks + 1 }) : wpAny (model prog w) A (dictSet d (.str x t) v) Q E s := by
  unfold dictSet
  try with_reducible refine wpAny_holding ?_
  refine wpAny_bind (wpAny_pyHash_str ?_)
  unfold dictSetHashed
  try with_reducible refine wpAny_holding ?_
  refine wpAny_bind (dictFind_str (s := { s with toks := s.toks + 1 }) ho hd hs ?_)
  cases hi : es.findIdx? fun e => e.key.isStr x with
  | some i =>
    exact wpAny_bind (wpAny_rule (wpAny_bind (wpAny_updateDict (s := { s with toks := s.toks + 1 }) ho hd (wpAny_point (hQ _ (by unfold setS; rw [hi]))))))
  | none =>
    exact wpAny_bind (wpAny_rule (wpAny_updateDictKeys (hz := hz) (s := { s with toks := s.toks + 1 }) ho hd (hQ _ (by unfold setS; rw [hi]))))
theorem dictSetDefault_str {d : Addr} {o : Obj} {es : Array DictEntry} {ep : Nat} {x : Str} {t : Tok} {v : Value} {Q : Value → Shared → Prop} (ho : s.heap.get? d = some o) (hd : o.data = .dict es ep)
    (hs : (es.all fun e => isExactStrKey e.key) = true) (hz : es.size ≤ sizeLine) (hi : (es.findIdx? fun e => e.key.isStr x) = none)
    (hQ : Q v { s with heap := s.heap.update d (Obj.mapDictKeys (·.push ⟨hashStr w x, .str x t, v⟩)), toks := s.toks + 1 }) : wpAny (model prog w) A (dictSetDefault d (.str x t) v) Q E s := by
  unfold dictSetDefault
  try with_reducible refine wpAny_holding ?_
  refine wpAny_bind (wpAny_pyHash_str ?_)
  refine wpAny_bind (dictFind_str (s := { s with toks := s.toks + 1 }) ho hd hs ?_)
  rw [hi]
  exact wpAny_bind (wpAny_rule (wpAny_bind (wpAny_updateDictKeys (hz := hz) (s := { s with toks := s.toks + 1 }) ho hd (wpAny_pure hQ))))
end

noncomputable def lookS (es : Array DictEntry) (x : Str) : Option Value := (es.findIdx? fun e => e.key.isStr x).bind fun i => (es[i]?).map (·.val)
section
variable {F : Fix} {σ τ : Nat → Nat} {lim : Nat} {us : List Use} {K : Addr → Option Obj} {dr : Drawn} {os : OsState} {m₀ i₀ : Nat}
noncomputable def get3Use (σ : Nat → Nat) (m i j : Nat) (o : Obj) (x : Str) (t : Tok) (dflt v : Value) : Use :=
  ⟨.call (.builtin "dict.get") ⟨[.ref (σ j + 417), .str x t, dflt], []⟩, m, i, [(j, o)], .ok (.ret v), [], 0, 1⟩
theorem notMods (a : Nat) : ((a + 417 : Addr) == sysModules) = false := by
  have : sysModules = (1 : Nat) := rfl
  rw [beq_eq_false_iff_ne]
  intro h
  have h : a + 417 = 1 := h
  omega
theorem get3_use (O : VOk (F.vc σ τ lim us K dr os m₀ i₀)) (m i j : Nat) {o : Obj} {es : Array DictEntry} {ep : Nat} (x : Str) (t : Tok) (dflt : Value) {v : Value} (hc : o.cls = .type "dict") (hd : o.data = .dict es ep)
    (hs : (es.all fun e => isExactStrKey e.key) = true) (hv : (lookS es x).getD dflt = v) : UseOk (F.vc σ τ lim us K dr os m₀ i₀) (get3Use σ m i j o x t dflt v) := fun _ s R D hins n κ _ hk =>
  goodC_of_any fun A _ _ => by
    have ho : s.heap.get? (σ j + 417) = some o := (D.own j o (hins _ List.mem_cons_self)).2
    refine codeAny_call_builtin PySem.F.slot_dict_get.plain PySem.F.entry_dict_get (PySem.F.slot_dict_get.check _ _ _ _ _ _ _ _ (show s.TypeIs (.ref (σ j + 417)) "dict" from ⟨o, ho, hc⟩) (PySem.F.args_dict_get_3 _ _ _) ?_)
    show wpAny _ _ (dictGet (σ j + 417) (.str x t) >>= _) _ _ s
    refine wpAny_bind (dictGet_str ho hd hs ?_)
    have z := hk _ (D.fresh O)
    rw [← hv] at z
    unfold lookS at z
    cases h : (es.findIdx? fun e => e.key.isStr x).bind fun i => (es[i]?).map (·.val) with
    | some u =>
      rw [h] at z
      exact wpAny_pure z
    | none =>
      rw [h] at z
      show wpAny _ _ (Builtin.Dict.missed (σ j + 417) (.str x t) >>= _) _ _ _
      exact wpAny_bind (wpAny_missed_other (notMods _) (wpAny_pure z))
theorem setS_live {es : Array DictEntry} {ep : Nat} {x : Str} {t : Tok} {h : Int} {v : Value} {o : Obj} (hd : o.data = .dict es ep) : (setS es x t h v o).isFreed = false := by
  unfold setS
  split
  · exact Obj.isFreed_of_dict (Obj.data_mapDict hd _)
  · exact Obj.isFreed_of_dict (Obj.data_mapDictKeys hd _)
noncomputable def setUse (w : World) (σ : Nat → Nat) (m i j : Nat) (o : Obj) (es : Array DictEntry) (x : Str) (t : Tok) (v : Value) : Use :=
  ⟨.call (.builtin "dict.__setitem__") ⟨[.ref (σ j + 417), .str x t, v], []⟩, m, i, [(j, o)], .ok (.ret .none), [(j, setS es x t (hashStr w x) v o)], 0, 1⟩
theorem set_use (O : VOk (F.vc σ τ lim us K dr os m₀ i₀)) (m i j : Nat) {o : Obj} {es : Array DictEntry} {ep : Nat} (x : Str) (t : Tok) (v : Value) (hc : o.cls = .type "dict") (hd : o.data = .dict es ep)
    (hs : (es.all fun e => isExactStrKey e.key) = true) (hz : es.size ≤ 64) : UseOk (F.vc σ τ lim us K dr os m₀ i₀) (setUse F.w σ m i j o es x t v) := fun hidx s R D hins n κ _ hk =>
  goodC_of_any fun A _ _ => by
    have eo : R.get j = some o := hins _ List.mem_cons_self
    have ho : s.heap.get? (σ j + 417) = some o := (D.own j o eo).2
    have hT : s.TypeIs (.ref (σ j + 417)) "dict" := ⟨o, ho, hc⟩
    refine codeAny_call_builtin PySem.slot_dict_setitem.plain PySem.entry_dict_setitem (PySem.slot_dict_setitem.check _ _ _ _ _ _ _ _ hT (PySem.args_dict_setitem _ _ _) ?_)
    show wpAny _ _ (Builtin.Dict.notOrdered "__setitem__" ⟨[.ref (σ j + 417), .str x t, v], []⟩ >>= _) _ _ s
    refine wpAny_bind (wpAny_notOrdered_dict hT ?_)
    show wpAny _ _ (dictSet (σ j + 417) (.str x t) v >>= _) _ _ s
    refine wpAny_bind (dictSet_str (w := F.w) ho hd hs (Nat.le_trans hz (by decide +kernel)) fun f hf => wpAny_pure ?_)
    refine hk _ ?_
    have z := (D.update (f := f) eo (by rw [hf]; exact setS_live hd) (idxOk_head hidx)).fresh O
    rw [hf] at z
    exact z
noncomputable def itemUse (σ : Nat → Nat) (m i j : Nat) (o : Obj) (x : Str) (t : Tok) (v : Value) : Use :=
  ⟨.call (.builtin "dict.__getitem__") ⟨[.ref (σ j + 417), .str x t], []⟩, m, i, [(j, o)], .ok (.ret v), [], 0, 1⟩
theorem item_use (O : VOk (F.vc σ τ lim us K dr os m₀ i₀)) (m i j : Nat) {o : Obj} {es : Array DictEntry} {ep : Nat} (x : Str) (t : Tok) {v : Value} (hc : o.cls = .type "dict") (hd : o.data = .dict es ep)
    (hs : (es.all fun e => isExactStrKey e.key) = true) (hv : lookS es x = some v) : UseOk (F.vc σ τ lim us K dr os m₀ i₀) (itemUse σ m i j o x t v) := fun _ s R D hins n κ _ hk =>
  goodC_of_any fun A _ _ => by
    have ho : s.heap.get? (σ j + 417) = some o := (D.own j o (hins _ List.mem_cons_self)).2
    refine codeAny_call_builtin PySem.slot_dict_getitem.plain PySem.entry_dict_getitem (PySem.slot_dict_getitem.check _ _ _ _ _ _ _ _ (show s.TypeIs (.ref (σ j + 417)) "dict" from ⟨o, ho, hc⟩) (PySem.args_dict_getitem _ _) ?_)
    show wpAny _ _ (dictGet (σ j + 417) (.str x t) >>= _) _ _ s
    refine wpAny_bind (dictGet_str ho hd hs ?_)
    unfold lookS at hv
    rw [hv]
    exact wpAny_pure (hk _ (D.fresh O))
noncomputable def hasUse (σ : Nat → Nat) (m i j : Nat) (o : Obj) (x : Str) (t : Tok) (b : Bool) : Use :=
  ⟨.call (.builtin "dict.__contains__") ⟨[.ref (σ j + 417), .str x t], []⟩, m, i, [(j, o)], .ok (.ret (.bool b)), [], 0, 1⟩
theorem has_use (O : VOk (F.vc σ τ lim us K dr os m₀ i₀)) (m i j : Nat) {o : Obj} {es : Array DictEntry} {ep : Nat} (x : Str) (t : Tok) {b : Bool} (hc : o.cls = .type "dict") (hd : o.data = .dict es ep)
    (hs : (es.all fun e => isExactStrKey e.key) = true) (hv : (lookS es x).isSome = b) : UseOk (F.vc σ τ lim us K dr os m₀ i₀) (hasUse σ m i j o x t b) := fun _ s R D hins n κ _ hk =>
  goodC_of_any fun A _ _ => by
    have ho : s.heap.get? (σ j + 417) = some o := (D.own j o (hins _ List.mem_cons_self)).2
    refine codeAny_call_builtin PySem.slot_dict_contains.plain PySem.entry_dict_contains (PySem.slot_dict_contains.check _ _ _ _ _ _ _ _ (show s.TypeIs (.ref (σ j + 417)) "dict" from ⟨o, ho, hc⟩) (PySem.args_dict_contains _ _) ?_)
    show wpAny _ _ (dictGet (σ j + 417) (.str x t) >>= _) _ _ s
    refine wpAny_bind (dictGet_str ho hd hs ?_)
    have z := hk _ (D.fresh O)
    unfold lookS at hv
    cases h : (es.findIdx? fun e => e.key.isStr x).bind fun i => (es[i]?).map (·.val) with
    | some u =>
      rw [h] at hv
      subst hv
      exact wpAny_pure z
    | none =>
      rw [h] at hv
      subst hv
      show wpAny _ _ (Builtin.Dict.pendingKey? (σ j + 417) (.str x t) >>= _) _ _ _
      exact wpAny_bind (wpAny_pendingKey_other (notMods _) (wpAny_pure z))
noncomputable def dfltUse (w : World) (σ : Nat → Nat) (m i j : Nat) (o : Obj) (x : Str) (t : Tok) (v : Value) : Use :=
  ⟨.call (.builtin "dict.setdefault") ⟨[.ref (σ j + 417), .str x t, v], []⟩, m, i, [(j, o)], .ok (.ret v), [(j, Obj.mapDictKeys (·.push ⟨hashStr w x, .str x t, v⟩) o)], 0, 1⟩
theorem dflt_use (O : VOk (F.vc σ τ lim us K dr os m₀ i₀)) (m i j : Nat) {o : Obj} {es : Array DictEntry} {ep : Nat} (x : Str) (t : Tok) (v : Value) (hc : o.cls = .type "dict") (hd : o.data = .dict es ep)
    (hs : (es.all fun e => isExactStrKey e.key) = true) (hz : es.size ≤ 64) (hi : (es.findIdx? fun e => e.key.isStr x) = none) : UseOk (F.vc σ τ lim us K dr os m₀ i₀) (dfltUse F.w σ m i j o x t v) := fun hidx s R D hins n κ _ hk =>
  goodC_of_any fun A _ _ => by
    have eo : R.get j = some o := hins _ List.mem_cons_self
    have ho : s.heap.get? (σ j + 417) = some o := (D.own j o eo).2
    have hT : s.TypeIs (.ref (σ j + 417)) "dict" := ⟨o, ho, hc⟩
    refine codeAny_call_builtin PySem.F.slot_dict_setdefault.plain PySem.F.entry_dict_setdefault (PySem.F.slot_dict_setdefault.check _ _ _ _ _ _ _ _ hT (PySem.F.args_dict_setdefault_3 _ _ _) ?_)
    unfold Builtin.«dict.setdefault»
    refine wpAny_bind ?_
    unfold Builtin.Dict.keyAndDefault
    refine wpAny_bind (wpAny_notOrdered_dict hT ?_)
    show wpAny _ _ (pure (σ j + 417, Value.str x t, some v)) _ _ s
    refine wpAny_pure ?_
    show wpAny _ _ (if ((σ j + 417 : Addr) == sysModules) = true then _ else (dictSetDefault (σ j + 417) (.str x t) v >>= _)) _ _ s
    rw [if_neg (by rw [notMods]; exact Bool.false_ne_true)]
    refine wpAny_bind (dictSetDefault_str (w := F.w) ho hd hs (Nat.le_trans hz (by decide +kernel)) hi (wpAny_pure ?_))
    exact hk _ ((D.update eo (Obj.isFreed_of_dict (Obj.data_mapDictKeys hd _)) (idxOk_head hidx)).fresh O)
end
end Mine
end
section
set_option maxRecDepth 100000
namespace Mine
open PySem PySem.W PySem.W.X
noncomputable def vals (t : List Nat) (s : List Str) (i : List Int) (b : List Bool) (r : List Nat) (e : List (Array DictEntry)) (a : List (Array Value)) (en an : List Nat) (v : List Value) (c : List Nat) : Vals :=
  ⟨fun k => t.getD k 0, fun k => s.getD k ⟨#[]⟩, fun k => i.getD k 0, fun k => b.getD k true, fun k => r.getD k 0, fun k => a.getD k #[], fun k => e.getD k #[], fun k => match Nat.blt k 100 with | true => en.getD k 0 | false => match Nat.blt k 200 with | true => an.getD (k - 100) 0 | false => c.getD (k - 200) 0, fun k => v.getD k .none⟩
noncomputable def dO (es : Array DictEntry) (n : Nat) : Obj := ⟨.type "dict", none, .dict es n, #[]⟩
noncomputable def lO (xs : Array Value) (n : Nat) : Obj := ⟨.type "list", none, .seq xs n, #[]⟩
noncomputable def AllStr (es : Array DictEntry) : Prop := (es.all fun e => isExactStrKey e.key) = true
/-- the value of a key that stands is changed -/
noncomputable def setE (es : Array DictEntry) (x : Str) (v : Value) : Array DictEntry := match es.findIdx? fun e => e.key.isStr x with
  | some i => es.modify i fun e => { e with val := v }
  | none => es
theorem look_none {es : Array DictEntry} {x : Str} (h : lookS es x = none) : (es.findIdx? fun e => e.key.isStr x) = none := by
  unfold lookS at h
  cases hi : es.findIdx? fun e => e.key.isStr x with
  | none => rfl
  | some i =>
    obtain ⟨hlt, _, _⟩ := Array.findIdx?_eq_some_iff_getElem.mp hi
    rw [hi] at h
    simp [Array.getElem?_eq_getElem hlt] at h
theorem look_some {es : Array DictEntry} {x : Str} (h : (lookS es x).isSome = true) : ∃ i, (es.findIdx? fun e => e.key.isStr x) = some i := by
  unfold lookS at h
  cases hi : es.findIdx? fun e => e.key.isStr x with
  | none => rw [hi] at h; cases h
  | some i => exact ⟨i, rfl⟩
theorem set_new {P : Params} {w : World} (hw : w.params = P) {es : Array DictEntry} {n : Nat} {x : Str} {t : Tok} {v : Value} (h : lookS es x = none) : setS es x t (hashStr w x) v (dO es n) = dO (es.push (ent P x t v)) (n + 1) := by
  subst hw
  unfold setS
  rw [look_none h]; rfl
theorem set_old {w : World} {es : Array DictEntry} {n : Nat} {x : Str} {t : Tok} {v : Value} (h : (lookS es x).isSome = true) : setS es x t (hashStr w x) v (dO es n) = dO (setE es x v) n := by
  obtain ⟨i, hi⟩ := look_some h
  unfold setS setE
  rw [hi]; rfl

section
variable {F : Fix} {σ τ : Nat → Nat} {lim : Nat} {us : List Use} {K : Addr → Option Obj} {dr : Drawn} {os : OsState} {m₀ i₀ : Nat}
noncomputable def dget3Use (σ : Nat → Nat) (m i j : Nat) (es : Array DictEntry) (n : Nat) (x : Str) (t : Tok) (dflt v : Value) : Use := get3Use σ m i j (dO es n) x t dflt v
theorem dget3_none (O : VOk (F.vc σ τ lim us K dr os m₀ i₀)) (m i j : Nat) {es : Array DictEntry} {n : Nat} (x : Str) (t : Tok) (dflt : Value) (hs : AllStr es) (hv : lookS es x = none) :
    UseOk (F.vc σ τ lim us K dr os m₀ i₀) (dget3Use σ m i j es n x t dflt dflt) := get3_use O m i j x t dflt rfl rfl hs (by rw [hv]; rfl)
theorem dget3_some (O : VOk (F.vc σ τ lim us K dr os m₀ i₀)) (m i j : Nat) {es : Array DictEntry} {n : Nat} (x : Str) (t : Tok) (dflt : Value) {v : Value} (hs : AllStr es) (hv : lookS es x = some v) :
    UseOk (F.vc σ τ lim us K dr os m₀ i₀) (dget3Use σ m i j es n x t dflt v) := get3_use O m i j x t dflt rfl rfl hs (by rw [hv]; rfl)
noncomputable def ditemUse (σ : Nat → Nat) (m i j : Nat) (es : Array DictEntry) (n : Nat) (x : Str) (t : Tok) (v : Value) : Use := itemUse σ m i j (dO es n) x t v
theorem ditem_use (O : VOk (F.vc σ τ lim us K dr os m₀ i₀)) (m i j : Nat) {es : Array DictEntry} {n : Nat} (x : Str) (t : Tok) {v : Value} (hs : AllStr es) (hv : lookS es x = some v) :
    UseOk (F.vc σ τ lim us K dr os m₀ i₀) (ditemUse σ m i j es n x t v) := item_use O m i j x t rfl rfl hs hv
noncomputable def dhasUse (σ : Nat → Nat) (m i j : Nat) (es : Array DictEntry) (n : Nat) (x : Str) (t : Tok) (b : Bool) : Use := hasUse σ m i j (dO es n) x t b
theorem dhas_use (O : VOk (F.vc σ τ lim us K dr os m₀ i₀)) (m i j : Nat) {es : Array DictEntry} {n : Nat} (x : Str) (t : Tok) {b : Bool} (hs : AllStr es) (hv : (lookS es x).isSome = b) :
    UseOk (F.vc σ τ lim us K dr os m₀ i₀) (dhasUse σ m i j es n x t b) := has_use O m i j x t rfl rfl hs hv
noncomputable def dnewUse (P : Params) (σ : Nat → Nat) (m i j : Nat) (es : Array DictEntry) (n : Nat) (x : Str) (t : Tok) (v : Value) : Use :=
  ⟨.call (.builtin "dict.__setitem__") ⟨[.ref (σ j + 417), .str x t, v], []⟩, m, i, [(j, dO es n)], .ok (.ret .none), [(j, dO (es.push (ent P x t v)) (n + 1))], 0, 1⟩
theorem dnew_use (O : VOk (F.vc σ τ lim us K dr os m₀ i₀)) (m i j : Nat) {es : Array DictEntry} {n : Nat} (x : Str) (t : Tok) (v : Value) (hs : AllStr es) (hz : es.size ≤ 60) (hv : lookS es x = none) :
    UseOk (F.vc σ τ lim us K dr os m₀ i₀) (dnewUse F.w.params σ m i j es n x t v) := by
  have := set_use (o := dO es n) O m i j x t v rfl rfl hs (by omega)
  unfold setUse at this
  rw [set_new rfl hv] at this
  exact this
noncomputable def doldUse (σ : Nat → Nat) (m i j : Nat) (es : Array DictEntry) (n : Nat) (x : Str) (t : Tok) (v : Value) : Use :=
  ⟨.call (.builtin "dict.__setitem__") ⟨[.ref (σ j + 417), .str x t, v], []⟩, m, i, [(j, dO es n)], .ok (.ret .none), [(j, dO (setE es x v) n)], 0, 1⟩
theorem dold_use (O : VOk (F.vc σ τ lim us K dr os m₀ i₀)) (m i j : Nat) {es : Array DictEntry} {n : Nat} (x : Str) (t : Tok) (v : Value) (hs : AllStr es) (hz : es.size ≤ 60) (hv : (lookS es x).isSome = true) :
    UseOk (F.vc σ τ lim us K dr os m₀ i₀) (doldUse σ m i j es n x t v) := by
  have := set_use (o := dO es n) O m i j x t v rfl rfl hs (by omega)
  unfold setUse at this
  rw [set_old hv] at this
  exact this
noncomputable def ddfltUse (P : Params) (σ : Nat → Nat) (m i j : Nat) (es : Array DictEntry) (n : Nat) (x : Str) (t : Tok) (v : Value) : Use :=
  ⟨.call (.builtin "dict.setdefault") ⟨[.ref (σ j + 417), .str x t, v], []⟩, m, i, [(j, dO es n)], .ok (.ret v), [(j, dO (es.push (ent P x t v)) (n + 1))], 0, 1⟩
theorem ddflt_use (O : VOk (F.vc σ τ lim us K dr os m₀ i₀)) (m i j : Nat) {es : Array DictEntry} {n : Nat} (x : Str) (t : Tok) (v : Value) (hs : AllStr es) (hz : es.size ≤ 60) (hv : lookS es x = none) :
    UseOk (F.vc σ τ lim us K dr os m₀ i₀) (ddfltUse F.w.params σ m i j es n x t v) :=
  dflt_use (o := dO es n) O m i j x t v rfl rfl hs (by omega) (look_none hv)
theorem app_data (xs : Array Value) (n : Nat) (v : Value) : Obj.mapSeq (·.push v) (lO xs n) = lO (xs.push v) (n + 1) := PyProof.Rows.mapSeq_push xs n v none #[]
noncomputable def appUse (σ : Nat → Nat) (m i j : Nat) (xs : Array Value) (n : Nat) (v : Value) : Use :=
  ⟨.call (.builtin "list.append") ⟨[.ref (σ j + 417), v], []⟩, m, i, [(j, lO xs n)], .ok (.ret .none), [(j, lO (xs.push v) (n + 1))], 0, 0⟩
theorem app_use (O : VOk (F.vc σ τ lim us K dr os m₀ i₀)) (m i j : Nat) {xs : Array Value} {n : Nat} (v : Value) (hz : xs.size ≤ 60) :
    UseOk (F.vc σ τ lim us K dr os m₀ i₀) (appUse σ m i j xs n v) := fun hidx s R D hins n' κ _ hk =>
  goodC_of_any fun A _ _ => by
    have eo : R.get j = some (lO xs n) := hins _ List.mem_cons_self
    have ho : s.heap.get? (σ j + 417) = some (lO xs n) := (D.own j _ eo).2
    refine codeAny_call_builtin PySem.F.slot_list_append.plain PySem.entry_list_append (PySem.F.slot_list_append.check _ _ _ _ _ _ _ _ (show s.TypeIs (.ref (σ j + 417)) "list" from ⟨_, ho, rfl⟩) (PySem.args_list_append _ _) ?_)
    show wpAny _ _ (updateSeq (σ j + 417) (·.push v) >>= fun _ => ret .none) _ _ s
    refine wpAny_bind (wpAny_updateSeq (hz := Nat.le_trans hz (by decide +kernel)) ho rfl (wpAny_pure ?_))
    refine hk _ ?_
    have z := D.update (f := Obj.mapSeq (·.push v)) eo (by rw [app_data]; rfl) (idxOk_head hidx)
    rw [app_data] at z
    exact z

/-- the tuple of the frames' kinds, at the top -/
noncomputable def frameKinds : List Str := [.mk #[114, 111, 111, 116], .mk #[115, 117, 98], .mk #[116, 97, 115, 107], .mk #[112, 114, 111, 116, 101, 99, 116, 101, 100]]
structure Tops (kt : Params → KT) : Prop where
  kinds : ∀ P, ∃ items n, (kt P).get 124 = some ⟨.type "tuple", none, .seq items n, #[]⟩ ∧ PyProof.Rows.StrsAre items.toList frameKinds
noncomputable def kindUse (m i : Nat) (x : Str) (t : Tok) (b : Bool) : Use :=
  ⟨.call (.builtin "tuple.__contains__") ⟨[.ref 124, .str x t], []⟩, m, i, [], .ok (.ret (.bool b)), [], 0, 0⟩
theorem kind_use (hT : Tops F.kt) (O : VOk (F.vc σ τ lim us K dr os m₀ i₀)) (m i : Nat) (x : Str) (t : Tok) {b : Bool} (hb : frameKinds.any (· == x) = b) : UseOk (F.vc σ τ lim us K dr os m₀ i₀) (kindUse m i x t b) := fun _ s R D _ n κ _ hk =>
  goodC_of_any fun A _ _ => by
    obtain ⟨items, k, hg, hs⟩ := hT.kinds F.w.params
    have ho : s.heap.get? 124 = some ⟨.type "tuple", none, .seq items k, #[]⟩ := D.old O hg
    refine codeAny_call_builtin PySem.F.slot_tuple_contains.plain PySem.F.entry_tuple_contains (PySem.F.slot_tuple_contains.check _ _ _ _ _ _ _ _ (show s.TypeIs (.ref 124) "tuple" from ⟨_, ho, rfl⟩) (PySem.F.args_tuple_contains_2 _ _) ?_)
    refine PyProof.Rows.tuple_contains_strs (items := items) (ys := frameKinds) ?_ hs ?_
    · exact ⟨_, ho, rfl, _, rfl⟩
    · rw [hb]; exact hk _ D
end
end Mine
end
section
set_option maxRecDepth 100000
namespace Mine
open PySem PySem.W PySem.W.X
noncomputable def rg {α : Type} (f : Nat → α) : Nat → Nat → List α
  | _, 0 => []
  | a, n + 1 => f a :: rg f (a + 1) n
noncomputable def nth (l : List Obj) (j : Nat) : Obj := l.getD j default
noncomputable def mkE (P : Params) : List Str → List Tok → List Value → List DictEntry
  | k :: ks, t :: ts, v :: vs => ent P k t v :: mkE P ks ts vs
  | _, _, _ => []
/-- the dict of a made object -/
noncomputable def mkD (P : Params) (ks : List Str) (ts : List Tok) (vs : List Value) (n : Nat) : Obj := ⟨.type "dict", none, .dict (mkE P ks ts vs).toArray n, #[]⟩
noncomputable def inst (c : Addr) (d : Addr) : Obj := ⟨.ref c, some d, .plain, #[]⟩
noncomputable def tO (xs : Array Value) : Obj := ⟨.type "tuple", none, .seq xs 0, #[]⟩
/-- name params result decls stmts handlers ups operation control about told -/
noncomputable def kS : List Str := [.mk #[110, 97, 109, 101], .mk #[112, 97, 114, 97, 109, 115], .mk #[114, 101, 115, 117, 108, 116], .mk #[100, 101, 99, 108, 115], .mk #[115, 116, 109, 116, 115], .mk #[104, 97, 110, 100, 108, 101, 114, 115], .mk #[117, 112, 115], .mk #[111, 112, 101, 114, 97, 116, 105, 111, 110], .mk #[99, 111, 110, 116, 114, 111, 108], .mk #[97, 98, 111, 117, 116], .mk #[116, 111, 108, 100]]
/-- kind name key subtype data line number unique home part region full is_ready is_complete is_constant is_implicit is_overridden -/
noncomputable def kE : List Str := [.mk #[107, 105, 110, 100], .mk #[110, 97, 109, 101], .mk #[107, 101, 121], .mk #[115, 117, 98, 116, 121, 112, 101], .mk #[100, 97, 116, 97], .mk #[108, 105, 110, 101], .mk #[110, 117, 109, 98, 101, 114], .mk #[117, 110, 105, 113, 117, 101], .mk #[104, 111, 109, 101], .mk #[112, 97, 114, 116], .mk #[114, 101, 103, 105, 111, 110], .mk #[102, 117, 108, 108], .mk #[105, 115, 95, 114, 101, 97, 100, 121], .mk #[105, 115, 95, 99, 111, 109, 112, 108, 101, 116, 101], .mk #[105, 115, 95, 99, 111, 110, 115, 116, 97, 110, 116], .mk #[105, 115, 95, 105, 109, 112, 108, 105, 99, 105, 116], .mk #[105, 115, 95, 111, 118, 101, 114, 114, 105, 100, 100, 101, 110]]
/-- kind owner parent root made number level part names order uses use_types counts type_homes generic -/
noncomputable def kR : List Str := [.mk #[107, 105, 110, 100], .mk #[111, 119, 110, 101, 114], .mk #[112, 97, 114, 101, 110, 116], .mk #[114, 111, 111, 116], .mk #[109, 97, 100, 101], .mk #[110, 117, 109, 98, 101, 114], .mk #[108, 101, 118, 101, 108], .mk #[112, 97, 114, 116], .mk #[110, 97, 109, 101, 115], .mk #[111, 114, 100, 101, 114], .mk #[117, 115, 101, 115], .mk #[117, 115, 101, 95, 116, 121, 112, 101, 115], .mk #[99, 111, 117, 110, 116, 115], .mk #[116, 121, 112, 101, 95, 104, 111, 109, 101, 115], .mk #[103, 101, 110, 101, 114, 105, 99]]
/-- kind name number parent low high literals modulus small index component is_constrained discriminants components variant designated is_tagged wide is_limited is_private is_abstract is_constant is_late operations -/
noncomputable def kT : List Str := [.mk #[107, 105, 110, 100], .mk #[110, 97, 109, 101], .mk #[110, 117, 109, 98, 101, 114], .mk #[112, 97, 114, 101, 110, 116], .mk #[108, 111, 119], .mk #[104, 105, 103, 104], .mk #[108, 105, 116, 101, 114, 97, 108, 115], .mk #[109, 111, 100, 117, 108, 117, 115], .mk #[115, 109, 97, 108, 108], .mk #[105, 110, 100, 101, 120], .mk #[99, 111, 109, 112, 111, 110, 101, 110, 116], .mk #[105, 115, 95, 99, 111, 110, 115, 116, 114, 97, 105, 110, 101, 100], .mk #[100, 105, 115, 99, 114, 105, 109, 105, 110, 97, 110, 116, 115], .mk #[99, 111, 109, 112, 111, 110, 101, 110, 116, 115], .mk #[118, 97, 114, 105, 97, 110, 116], .mk #[100, 101, 115, 105, 103, 110, 97, 116, 101, 100], .mk #[105, 115, 95, 116, 97, 103, 103, 101, 100], .mk #[119, 105, 100, 101], .mk #[105, 115, 95, 108, 105, 109, 105, 116, 101, 100], .mk #[105, 115, 95, 112, 114, 105, 118, 97, 116, 101], .mk #[105, 115, 95, 97, 98, 115, 116, 114, 97, 99, 116], .mk #[105, 115, 95, 99, 111, 110, 115, 116, 97, 110, 116], .mk #[105, 115, 95, 108, 97, 116, 101], .mk #[111, 112, 101, 114, 97, 116, 105, 111, 110, 115]]
/-- type constraint -/
noncomputable def kU : List Str := [.mk #[116, 121, 112, 101], .mk #[99, 111, 110, 115, 116, 114, 97, 105, 110, 116]]
/-- width steps depth members text tasks heap -/
noncomputable def kL : List Str := [.mk #[119, 105, 100, 116, 104], .mk #[115, 116, 101, 112, 115], .mk #[100, 101, 112, 116, 104], .mk #[109, 101, 109, 98, 101, 114, 115], .mk #[116, 101, 120, 116], .mk #[116, 97, 115, 107, 115], .mk #[104, 101, 97, 112]]
/-- place limits choose types typed static builders ways declarations statements line count under_way -/
noncomputable def kC : List Str := [.mk #[112, 108, 97, 99, 101], .mk #[108, 105, 109, 105, 116, 115], .mk #[99, 104, 111, 111, 115, 101], .mk #[116, 121, 112, 101, 115], .mk #[116, 121, 112, 101, 100], .mk #[115, 116, 97, 116, 105, 99], .mk #[98, 117, 105, 108, 100, 101, 114, 115], .mk #[119, 97, 121, 115], .mk #[100, 101, 99, 108, 97, 114, 97, 116, 105, 111, 110, 115], .mk #[115, 116, 97, 116, 101, 109, 101, 110, 116, 115], .mk #[108, 105, 110, 101], .mk #[99, 111, 117, 110, 116], .mk #[117, 110, 100, 101, 114, 95, 119, 97, 121]]
end Mine
end
section
set_option maxRecDepth 100000
namespace Mine
open PySem PySem.W PySem.W.X
section
variable {F : Fix} {σ τ : Nat → Nat} {lim : Nat} {us : List Use} {K : Addr → Option Obj} {dr : Drawn} {os : OsState} {m₀ i₀ : Nat}
theorem codeAny_function {prog : Program} {w : World} {A : Around} {s : Shared} {id : String} {b : Builtin} {args : List Value} {R : Result → Shared → Prop} (hk : builtinKind id = none) (hp : plainId id = true)
    (hb : entryFor table id = some b) (ha : argsOk id ⟨args, []⟩)
    (hc : wpAny (model prog w) A.in1 (b ⟨args, []⟩) (fun fin s' => ∃ v, fin = .done (.ret v) ∧ R (.ok (.ret v)) s') (fun e s' => R (.error e) s') s) : codeAny (model prog w) A (.call (.builtin id) ⟨args, []⟩) R s := by
  refine codeAny_call_builtin hp hb ?_
  have hfin := wpAny_mono hc (Q' := fun fin s' => match fin with
      | .done f => R (.ok f) s'
      | .again c' => c'.quiet = true ∧ codeAny (model prog w) A c' R s')
    (fun fin s' h' => by obtain ⟨v, rfl, hv⟩ := h'; exact hv) fun _ _ h' => h'
  simp only [checkBuiltinCall, hk]
  cases hsig : Manifest.signature? id with
  | none => exact wpAny_pure hfin
  | some sig =>
    simp only [argsOk, hsig] at ha
    dsimp only
    rw [ha]
    exact wpAny_pure hfin
noncomputable def lenUse (σ τ : Nat → Nat) (m i j : Nat) (xs : Array Value) (n : Nat) : Use :=
  ⟨.call (.builtin "len") ⟨[.ref (σ j + 417)], []⟩, m, i, [(j, lO xs n)], .ok (.ret (.int xs.size (τ (i + 1)))), [], 0, 2⟩
theorem len_use (O : VOk (F.vc σ τ lim us K dr os m₀ i₀)) (m i j : Nat) {xs : Array Value} {n : Nat} (hz : xs.size ≤ 60) : UseOk (F.vc σ τ lim us K dr os m₀ i₀) (lenUse σ τ m i j xs n) := fun _ s R D hins n' κ _ hk =>
  goodC_of_any fun A _ _ => by
    have eo : R.get j = some (lO xs n) := hins _ List.mem_cons_self
    have ho : s.heap.get? (σ j + 417) = some (lO xs n) := (D.own j _ eo).2
    have hT : s.TypeIs (.ref (σ j + 417)) "list" := ⟨_, ho, rfl⟩
    refine codeAny_function kind_len plain_len entry_len (args_len1 _) ?_
    unfold Builtin.«len»
    refine wpAny_bind (m := oneArg "len" _) (wpAny_pure ?_)
    refine wpAny_bind (m := callSpecial? (.ref (σ j + 417)) (Str.ofString "__len__")) (wpAny_callSpecial?_slot (name := Str.ofString "__len__") hT slot_list_len
      (wpAny_call_entry slot_list_len hT entry_list_len ?_ (args_list_len _)))
    show wpAny _ _ (do retInt (← seqSize (σ j + 417))) _ _ s
    unfold seqSize
    refine wpAny_bind (wpAny_bind (wpAny_load ho ?_))
    show wpAny _ _ (pure xs.size) _ _ s
    refine wpAny_pure (wpAny_bind (wpAny_mkInt (wpAny_pure ⟨_, rfl, ?_⟩)))
    refine wpAny_bind (wpAny_holding (wpAny_pure ?_))
    refine wpAny_bind (wpAny_letGo ?_)
    show wpAny _ _ (if ((xs.size : Nat) : Int) < 0 then _ else _) _ _ _
    rw [if_neg (by omega)]
    show wpAny _ _ (if ((xs.size : Nat) : Int) ≥ 2 ^ 63 then _ else _) _ _ _
    rw [if_neg (by omega)]
    refine wpAny_bind (wpAny_mkInt (wpAny_pure ⟨_, rfl, ?_⟩))
    have z := hk _ ((D.fresh O).fresh O)
    have e : s.toks + 1 = τ (i + 1) := by
      have h1 : s.toks = τ i := D.toks
      have h2 : τ (i + 1) = τ i + 1 := O.tok i D.hi
      omega
    have er : (lenUse σ τ m i j xs n).r = .ok (.ret (.int xs.size (s.toks + 1))) := by
      show Except.ok (Flow.ret (Value.int xs.size (τ (i + 1)))) = _
      rw [e]
    rw [er] at z
    exact z
noncomputable def itemLUse (σ : Nat → Nat) (m i j : Nat) (xs : Array Value) (n : Nat) (k : Int) (t : Tok) (v : Value) : Use :=
  ⟨.call (.builtin "list.__getitem__") ⟨[.ref (σ j + 417), .int k t], []⟩, m, i, [(j, lO xs n)], .ok (.ret v), [], 0, 0⟩
theorem itemL_use (O : VOk (F.vc σ τ lim us K dr os m₀ i₀)) (m i j : Nat) {xs : Array Value} {n : Nat} (k : Int) (t : Tok) {v : Value} (h0 : 0 ≤ k ∧ k < 64) (hx : xs[k.toNat]? = some v) : UseOk (F.vc σ τ lim us K dr os m₀ i₀) (itemLUse σ m i j xs n k t v) := fun _ s R D hins n' κ _ hk =>
  goodC_of_any fun A _ _ => by
    have eo : R.get j = some (lO xs n) := hins _ List.mem_cons_self
    have ho : s.heap.get? (σ j + 417) = some (lO xs n) := (D.own j _ eo).2
    have hT : s.TypeIs (.ref (σ j + 417)) "list" := ⟨_, ho, rfl⟩
    refine codeAny_call_builtin slot_list_getitem.plain entry_list_getitem (slot_list_getitem.check _ _ _ _ _ _ _ _ hT (args_list_getitem _ _) ?_)
    show wpAny _ _ (Builtin.List.listSubscript? (.int k t) >>= _) _ _ s
    refine wpAny_bind (wpAny_listSubscript_int (fitsIndex_of h0.1 (by omega)) ?_)
    obtain ⟨h0, _⟩ := h0
    obtain ⟨q, rfl⟩ := Int.eq_ofNat_of_zero_le h0
    have hx' : xs[q]? = some v := hx
    show wpAny _ _ ((seqItemAt (σ j + 417) q >>= fun r => pure (r.map (q, ·))) >>= _) _ _ s
    refine wpAny_bind (wpAny_bind (wpAny_seqItemAt ho rfl (wpAny_pure ?_)))
    rw [hx']
    have z := hk _ D
    first
      | exact wpAny_pure z
      | (refine wpAny_bind (wpAny_pure ?_); exact wpAny_pure z)
/-! comparisons of letters -/
noncomputable def cmpSeg (id : String) (v : Vals → Bool × (Value × Value)) (N : Nat) : Seg := ⟨0, fun _ _ _ x => .code (.call (.builtin id) ⟨[(v x).2.1, (v x).2.2], []⟩), fun _ _ _ => [], [], fun _ _ _ _ => [], fun _ _ _ _ x => .res (.ok (.ret (.bool (v x).1))), 0, 0, 88, 0, fun _ => N, fun _ => [0, 0, 0, 0, 0, 0, 0, 0], fun _ _ _ _ _ => []⟩
noncomputable def twoI (x : Vals) : Value × Value := (.int (x.i 0) (x.t 0), .int (x.i 1) (x.t 1))
noncomputable def twoS (x : Vals) : Value × Value := (.str (x.s 0) (x.t 0), .str (x.s 1) (x.t 1))
noncomputable def kLt : Seg := cmpSeg "int.__lt__" (fun x => (decide (x.i 0 < x.i 1), twoI x)) 30
noncomputable def kGt : Seg := cmpSeg "int.__gt__" (fun x => (decide (x.i 0 > x.i 1), twoI x)) 30
noncomputable def kNe : Seg := cmpSeg "str.__ne__" (fun x => ((x.s 0).cps.toList != (x.s 1).cps.toList, twoS x)) 30
noncomputable def kEq : Seg := cmpSeg "str.__eq__" (fun x => ((x.s 0).cps.toList == (x.s 1).cps.toList, twoS x)) 30
noncomputable def kIeq : Seg := cmpSeg "int.__eq__" (fun x => (decide (x.i 0 = x.i 1), twoI x)) 30
noncomputable def kIne : Seg := cmpSeg "int.__ne__" (fun x => (x.i 0 != x.i 1, twoI x)) 30
noncomputable def kIn : Seg := cmpSeg "str.__contains__" (fun x => (!(Builtin.Str.occurrences (x.s 0) (x.s 1) 0 (x.s 0).length 1).isEmpty, twoS x)) 30
noncomputable def cmpUse (id : String) (m i : Nat) (a b : Value) (r : Bool) : Use := ⟨.call (.builtin id) ⟨[a, b], []⟩, m, i, [], .ok (.ret (.bool r)), [], 0, 0⟩
theorem cmp_use {id : String} {v : Vals → Bool × (Value × Value)} {N : Nat} (h : (cmpSeg id v N).Run F.kt) (H : F.Ok) (O : VOk (F.vc σ τ lim us K dr os m₀ i₀)) (hlim : lim ≤ 88) (m i : Nat) (x : Vals) {a b : Value} {r : Bool} (e : v x = (r, (a, b))) :
    UseOk (F.vc σ τ lim us K dr os m₀ i₀) (cmpUse id m i a b r) := by
  have := Seg.useOk (js := []) (m := m) (i := i) (x := x) h H O List.nodup_nil rfl rfl (Nat.zero_le _) (fun y hy => by cases hy) hlim ⟨_, rfl⟩ ⟨_, rfl⟩ fun K' O' => uses_nil rfl
  have e2 : (cmpSeg id v N).use F.w.params (F.kt F.w.params) σ τ m i [] x = cmpUse id m i a b r := by
    unfold Seg.use cmpUse
    show Use.mk (.call (.builtin id) ⟨[(v x).2.1, (v x).2.2], []⟩) m i [] (.ok (.ret (.bool (v x).1))) [] 0 0 = _
    rw [e]
  rw [e2] at this
  exact this
/-- a use whose answer is told in other words -/
theorem use_as {C : VC} {u : Use} (h : UseOk C u) {v : Use} (e : u = v) : UseOk C v := e ▸ h
end
end Mine
end
section
set_option maxRecDepth 100000
namespace Mine
open PySem PySem.W PySem.W.X
theorem Rep.congr {C : VC} {s : Shared} {R R' : KT} {m i : Nat} (D : Rep C s R m i) (h : ∀ k, R'.get k = R.get k) : Rep C s R' m i :=
  ⟨D.gens, D.drawn, D.os, D.keep, D.size, D.toks, D.hm, D.hi, fun k o e => D.own k o (by rw [← h]; exact e), fun k l hk hl e => D.inj k l (by rw [← h]; exact hk) (by rw [← h]; exact hl) e⟩
section
variable {F : Fix} {σ τ : Nat → Nat} {lim : Nat} {us : List Use} {K : Addr → Option Obj} {dr : Drawn} {os : OsState} {m₀ i₀ : Nat}
noncomputable def collUse (σ : Nat → Nat) (m i j : Nat) (xs : Array Value) (n : Nat) : Use :=
  ⟨.builtin "proto.collect" ⟨[.ref (σ j + 417)], []⟩, m, i, [(j, lO xs n)], .ok (.ret (.ref (σ m + 417))), [(m, Obj.mapSeq (· ++ xs) (lO #[] 0))], 1, 0⟩
theorem coll_use (O : VOk (F.vc σ τ lim us K dr os m₀ i₀)) (m i j : Nat) {xs : Array Value} {n : Nat} (hz : xs.size ≤ 60) : UseOk (F.vc σ τ lim us K dr os m₀ i₀) (collUse σ m i j xs n) := fun hidx s R D hins n' κ _ hk =>
  goodC_of_any fun A _ _ => by
    have eo : R.get j = some (lO xs n) := hins _ List.mem_cons_self
    have ho : s.heap.get? (σ j + 417) = some (lO xs n) := (D.own j _ eo).2
    have D : Rep (F.vc σ τ lim us K dr os m₀ i₀) s R m i := D
    have es : s.heap.objs.size = σ m + 417 := D.size
    have hsz : xs.size ≤ sizeLine := Nat.le_trans hz (by decide +kernel)
    refine codeAny_builtin PySem.F.entry_proto_collect ?_
    rw [Around.under_plainId PySem.F.plain_proto_collect _]
    show wpAny _ A.in1 (newList [] >>= fun l => again (.builtin "list.__iadd__" ⟨[l, .ref (σ j + 417)], []⟩)) _ _ s
    refine wpAny_bind (wpAny_newObj_type ?_)
    refine wpAny_pure ⟨plainId_quiet PySem.F.plain_list_iadd _, codeAny_builtin PySem.F.entry_list_iadd ?_⟩
    rw [Around.under_plainId PySem.F.plain_list_iadd _]
    show wpAny _ A.in1 (Builtin.List.listExtendWith (.ref s.heap.objs.size) (.ref (σ j + 417)) (.ref s.heap.objs.size)) _ _ _
    have hm : m < 65536 := idxOk_head hidx
    have D1 := D.alloc O (o := lO #[] 0) rfl hm
    have hS : (s.heap.push (lO #[] 0)).get? s.heap.objs.size = some (lO #[] 0) := Heap.get?_push_size _ rfl
    have g1 : (putT 17 R m (lO #[] 0)).get m = some (lO #[] 0) := by rw [get_putT _ 16 R m hm, if_pos rfl]
    have D2 := D1.update (f := Obj.mapSeq (· ++ xs)) g1 rfl hm
    have fin' : Post (F.vc σ τ lim us K dr os m₀ i₀).M κ (.ok (.ret (.ref s.heap.objs.size))) { s with heap := (s.heap.push (lO #[] 0)).update s.heap.objs.size (Obj.mapSeq (· ++ xs)) } := by
      rw [es]
      refine hk _ ?_
      refine D2.congr fun k => ?_
      show (putT 17 R m (Obj.mapSeq (· ++ xs) (lO #[] 0))).get k = _
      rw [get_putT _ 16 _ m hm, get_putT _ 16 _ m hm, get_putT _ 16 _ m hm]
      by_cases h : k = m
      · rw [if_pos h, if_pos h]
      · rw [if_neg h, if_neg h, if_neg h]
    refine wpAny_mono (wpAny_extend_seq (hsz := hsz) (A := A) (R := fun r s' => r = .ok (.ret (.ref s.heap.objs.size)) ∧ s' = { s with heap := (s.heap.push (lO #[] 0)).update s.heap.objs.size (Obj.mapSeq (· ++ xs)) })
      (s := { s with heap := s.heap.push (lO #[] 0) }) _ (σ j + 417) _ 0 (.inl rfl) hS (Heap.get?_push_of_some _ ho) rfl rfl ⟨rfl, rfl⟩) (fun fin s' h => ?_) (fun e s' h => ?_)
    · cases fin with
      | done f =>
        obtain ⟨e, rfl⟩ := h
        cases e
        exact fin'
      | again c' => exact ⟨h.1, codeAny_mono h.2 fun r s'' hr => by obtain ⟨rfl, rfl⟩ := hr; exact fin'⟩
    · exact absurd h.1 (by simp)
end
end Mine
end
section
set_option maxRecDepth 100000
namespace Mine
open PySem PySem.W PySem.W.X
/-- the second word of an operation's text -/
noncomputable def spMid : Bool → List Nat
  | true => [105, 110, 115, 101, 108, 102]
  | false => [105, 110, 54, 49]
noncomputable def spSelf : List Nat := [115, 101, 108, 102]
noncomputable def spOuts (b : Bool) (n : Nat) (τ : Nat → Nat) : List Obj := [lO #[.str ⟨#[n + 102]⟩ (τ 0), .str ⟨(spMid b).toArray⟩ (τ 1), .str ⟨spSelf.toArray⟩ (τ 2)] 0]
noncomputable def spKey (b : Bool) (n : Nat) : Str := ⟨((n + 102) :: 32 :: (spMid b ++ 32 :: spSelf)).toArray⟩
noncomputable def kSp (b : Bool) (n : Nat) : Seg := ⟨0, fun _ _ _ x => .code (.call (.builtin "str.split") ⟨[.str (spKey b n) (x.t 0), .str ⟨#[32]⟩ (x.t 1)], []⟩), fun _ _ _ => [], [0], fun _ _ τ _ => spOuts b n τ,
  fun _ _ σ _ _ => .res (.ok (.ret (.ref (σ 0 + 417)))), 1, 3, 84, 90, fun _ => 30, fun _ => [], fun _ _ _ _ _ => []⟩
noncomputable def SpRuns (kt : Params → KT) : Prop := ∀ b n, n ≤ 3 → (kSp b n).Run kt
section
variable {F : Fix} {σ τ : Nat → Nat} {lim : Nat} {us : List Use} {K : Addr → Option Obj} {dr : Drawn} {os : OsState} {m₀ i₀ : Nat}
theorem sp_use (h : SpRuns F.kt) (H : F.Ok) (O : VOk (F.vc σ τ lim us K dr os m₀ i₀)) (hlim : lim ≤ 84) (m i : Nat) (b : Bool) {n : Nat} (hn : n ≤ 3) (x : Vals) :
    UseOk (F.vc σ τ lim us K dr os m₀ i₀) ((kSp b n).use F.w.params (F.kt F.w.params) σ τ m i [] x) :=
  Seg.useOk (js := []) (m := m) (i := i) (x := x) (h b n hn) H O List.nodup_nil rfl rfl (Nat.zero_le _) (fun y hy => absurd hy (Nat.not_lt_zero y)) hlim ⟨_, rfl⟩ ⟨_, rfl⟩ fun K' O' => uses_nil rfl
end
end Mine
end
section
set_option maxRecDepth 100000
namespace Mine
open PySem PySem.W PySem.W.X
noncomputable def lawFd (T : KT) : FuncData := match T.get 415 with
  | some o => match o.data with
    | .func fd => fd
    | _ => default
  | none => default
noncomputable def lawBody (T : KT) : List Stmt := match (lawFd T).body with
  | .stmts b => b
  | _ => []
noncomputable def lawEnv (T : KT) (a : Addr) : Env :=
  { scope := (lawFd T).scope, locals := a, globals := (lawFd T).globals, cells := (lawFd T).closure, qual := ⟨#[108, 97, 119, 46, 60, 108, 111, 99, 97, 108, 115, 62, 46]⟩, func := some 415, code := (lawFd T).code, frame := some a, builtins := (lawFd T).builtins }
/-- the law's run from its k-th statement on -/
noncomputable def lawT (T : KT) (k : Nat) (a : Addr) : Sem Fin := tailR ((lawBody T).drop k) (lawEnv T a)
/-- the parts of a loop -/
noncomputable def forTgt (s : Stmt) : PySem.Expr := match s with | .For t _ _ _ _ => t | _ => default
noncomputable def forBody (s : Stmt) : List Stmt := match s with | .For _ _ b _ _ => b | _ => []
noncomputable def forElse (s : Stmt) : List Stmt := match s with | .For _ _ _ o _ => o | _ => []
noncomputable def stAt (l : List Stmt) (k : Nat) : Stmt := match l.drop k with | s :: _ => s | [] => .Pass default
noncomputable def loopC (T : KT) (k : Nat) (it : Value) (a : Addr) : Code := .forLoop (forTgt (stAt (lawBody T) k)) it (forBody (stAt (lawBody T) k)) (forElse (stAt (lawBody T) k)) (lawEnv T a)
noncomputable def tryBody (s : Stmt) : List Stmt := match s with | .Try b _ _ _ _ => b | _ => []
/-- the loop within the try -/
noncomputable def loopS3 (T : KT) : Stmt := stAt (tryBody (stAt (lawBody T) 16)) 0
noncomputable def loopC3 (T : KT) (it : Value) (a : Addr) : Code := .forLoop (forTgt (loopS3 T)) it (forBody (loopS3 T)) (forElse (loopS3 T)) (lawEnv T a)
/-- at the loop's call -/
noncomputable def loopT (T : KT) (k : Nat) (it : Value) (a : Addr) : Sem Fin := bnd (onR (bnd (bnd (ownF (loopC T k it a) (lawEnv T a) none) fun f => match f with
    | .next => .pure .next
    | f => .pure f) fun f => match f with
    | .next => execsR ((lawBody T).drop (k + 1)) (lawEnv T a)
    | f => .pure f) (leavF (lawEnv T a))) fun f => match f with
  | .ret v => .pure (.done (.ret v))
  | _ => .pure (.done (.ret .none))
/-- the top with the script's list -/
noncomputable def ktS (kt : Params → KT) (xs : List Value) : Params → KT := fun P => putT 17 (kt P) 416 (lO xs.toArray 0)
end Mine
end
section
set_option maxRecDepth 100000
set_option maxHeartbeats 0
namespace Mine
open PySem PySem.W PySem.W.X
/-! kSub: 372 steps, 372 in the other world; 1 t, 1 s, 0 i, 0 b, 0 v, 0 r, 0 e, 0 a -/
noncomputable def kSub_sc : List Nat := [0, 0, 0, 0, 0, 0, 0, 0, 0, 0, 0, 0, 0, 0, 0, 0, 0, 0, 0, 0, 0, 0, 0, 0, 0, 0, 0, 2, 0, 2, 0, 0, 0, 0, 0, 0, 3, 3, 3, 3, 3, 3, 2, 0, 0, 0, 0, 2, 0, 2, 0, 2, 0, 0, 0, 2, 0, 1, 1, 1, 3, 2, 0, 0, 0, 0, 2, 0, 2, 0, 2, 0, 0, 0, 2, 0, 1, 1, 1, 3, 2, 0, 0, 0, 0, 2, 0, 2, 0, 2, 0, 0, 0, 2, 0, 1, 1, 1, 3, 2, 0, 0, 0, 0, 2, 0, 2, 0, 2, 0, 0, 0, 2, 0, 1, 1, 1, 3, 2, 0, 0, 0, 0, 2, 0, 2, 0, 2, 0, 0, 0, 2, 0, 1, 1, 1, 3, 2, 0, 0, 0, 0, 2, 0, 2, 0, 2, 0, 0, 0, 2, 0, 1, 1, 1, 3, 2, 0, 0, 0, 0, 2, 0, 2, 0, 2, 0, 0, 0, 2, 0, 1, 1, 1, 3, 2, 0, 0, 0, 0, 2, 0, 2, 0, 2, 0, 0, 0, 2, 0, 1, 1, 1, 3, 2, 0, 0, 0, 0, 2, 0, 2, 0, 2, 0, 0, 0, 2, 0, 1, 1, 1, 3, 2, 0, 0, 0, 0, 2, 0, 2, 0, 2, 0, 0, 0, 2, 0, 1, 1, 1, 3, 2, 0, 0, 0, 0, 2, 0, 2, 0, 2, 0, 0, 0, 2, 0, 1, 1, 1]
noncomputable def kSub_ins (P : Params) (σ : Nat → Nat) (x : Vals) : List Obj := [
]
noncomputable def kSub_outs (P : Params) (σ τ : Nat → Nat) (x : Vals) : List Obj := [
  mkD P kS [(τ 3), (τ 5), (τ 7), (τ 9), (τ 11), (τ 13), (τ 16), (τ 19), (τ 21), (τ 23), (τ 25)] [.str (x.s 0) (x.t 0), .ref (σ 3 + 417), .none, .ref (σ 4 + 417), .ref (σ 5 + 417), .ref (σ 6 + 417), .int (0) (τ 14), .str (.mk #[]) (τ 17), .ref (σ 7 + 417), .none, .none] 11,
  inst 31 (σ 0 + 417),
  lO #[] 0,
  lO #[] 0,
  lO #[] 0,
  lO #[] 0,
  lO #[] 0]
noncomputable def kSub_us (P : Params) (T : KT) (σ τ : Nat → Nat) (x : Vals) : List Use := [
]
noncomputable def kSub : Seg := ⟨0, fun P T σ x => .code (.call (.ref 31) ⟨[.str (x.s 0) (x.t 0)], []⟩), kSub_ins, [0, 1, 3, 4, 5, 6, 7], kSub_outs, fun P T σ τ x => .res (.ok (.ret (.ref (σ 1 + 417)))), 8, 26, 84, 0, fun _ => 373, fun _ => kSub_sc, kSub_us⟩

section
variable {F : Fix} {σ τ : Nat → Nat} {lim : Nat} {us : List Use} {K : Addr → Option Obj} {dr : Drawn} {os : OsState} {m₀ i₀ : Nat}
-- DEPS kSub []
theorem kSub_us_ok {x : Vals} (H : F.Ok) (O : VOk (F.vc σ τ 0 (kSub_us F.w.params (F.kt F.w.params) σ τ x) K dr os m₀ i₀)) : UsesOk (F.vc σ τ 0 (kSub_us F.w.params (F.kt F.w.params) σ τ x) K dr os m₀ i₀) := uses_all (
  all_nil)
theorem kSub_ok (hkSub : kSub.Run F.kt) (H : F.Ok) (O : VOk (F.vc σ τ lim us K dr os m₀ i₀)) (hlim : lim ≤ kSub.n0) (m i : Nat) {js : List Nat} (hnd : js.Nodup) (hL : js.length = kSub.L) {x : Vals} : UseOk (F.vc σ τ lim us K dr os m₀ i₀) (kSub.use F.w.params (F.kt F.w.params) σ τ m i js x) :=
  Seg.useOk hkSub H O hnd hL rfl (by decide) (by decide) hlim ⟨_, rfl⟩ ⟨_, rfl⟩ fun K' O' => kSub_us_ok (x := x)  (H := H) (O := O')
end

/-! kEnt: 553 steps, 553 in the other world; 3 t, 2 s, 1 i, 0 b, 0 v, 3 r, 0 e, 0 a -/
noncomputable def kEnt_sc : List Nat := [0, 0, 0, 0, 0, 0, 0, 0, 0, 0, 0, 0, 0, 0, 0, 0, 0, 0, 0, 0, 0, 0, 0, 0, 0, 0, 0, 2, 0, 2, 0, 0, 0, 0, 0, 0, 3, 3, 3, 3, 3, 3, 3, 3, 3, 3, 3, 3, 3, 3, 3, 3, 2, 0, 0, 0, 0, 2, 0, 2, 0, 2, 0, 0, 0, 2, 0, 1, 1, 1, 3, 3, 2, 0, 0, 0, 0, 2, 0, 2, 0, 2, 0, 0, 0, 2, 0, 1, 1, 1, 3, 3, 2, 0, 0, 0, 0, 2, 0, 2, 0, 2, 0, 0, 0, 2, 0, 1, 1, 1, 3, 3, 2, 0, 0, 0, 0, 2, 0, 2, 0, 2, 0, 0, 0, 2, 0, 1, 1, 1, 3, 3, 2, 0, 0, 0, 0, 2, 0, 2, 0, 2, 0, 0, 0, 2, 0, 1, 1, 1, 3, 3, 2, 0, 0, 0, 0, 2, 0, 2, 0, 2, 0, 0, 0, 2, 0, 1, 1, 1, 3, 2, 0, 0, 0, 0, 2, 0, 2, 0, 2, 0, 0, 0, 2, 0, 1, 1, 1, 3, 2, 0, 0, 0, 0, 2, 0, 2, 0, 2, 0, 0, 0, 2, 0, 1, 1, 1, 3, 2, 0, 0, 0, 0, 2, 0, 2, 0, 2, 0, 0, 0, 2, 0, 1, 1, 1, 3, 2, 0, 0, 0, 0, 2, 0, 2, 0, 2, 0, 0, 0, 2, 0, 1, 1, 1, 3, 2, 0, 0, 0, 0, 2, 0, 2, 0, 2, 0, 0, 0, 2, 0, 1, 1, 1, 3, 2, 0, 0, 0, 0, 2, 0, 2, 0, 2, 0, 0, 0, 2, 0, 1, 1, 1, 3, 2, 0, 0, 0, 0, 2, 0, 2, 0, 2, 0, 0, 0, 2, 0, 1, 1, 1, 3, 2, 0, 0, 0, 0, 2, 0, 2, 0, 2, 0, 0, 0, 2, 0, 1, 1, 1, 3, 2, 0, 0, 0, 0, 2, 0, 2, 0, 2, 0, 0, 0, 2, 0, 1, 1, 1, 3, 2, 0, 0, 0, 0, 2, 0, 2, 0, 2, 0, 0, 0, 2, 0, 1, 1, 1, 3, 2, 0, 0, 0, 0, 2, 0, 2, 0, 2, 0, 0, 0, 2, 0, 1, 1, 1]
noncomputable def kEnt_ins (P : Params) (σ : Nat → Nat) (x : Vals) : List Obj := [
]
noncomputable def kEnt_outs (P : Params) (σ τ : Nat → Nat) (x : Vals) : List Obj := [
  mkD P kE [(τ 8), (τ 10), (τ 12), (τ 14), (τ 16), (τ 18), (τ 21), (τ 24), (τ 26), (τ 29), (τ 31), (τ 33), (τ 35), (τ 37), (τ 39), (τ 41), (τ 43)] [.str (x.s 0) (x.t 0), .str (x.s 1) (x.t 1), .ref (x.r 0), .ref (x.r 1), .ref (x.r 2), .int (x.i 0) (x.t 2), .int (0) (τ 19), .str (.mk #[]) (τ 22), .none, .str (.mk #[]) (τ 27), .none, .none, .bool false, .bool false, .bool false, .bool false, .bool false] 17,
  inst 52 (σ 0 + 417)]
noncomputable def kEnt_us (P : Params) (T : KT) (σ τ : Nat → Nat) (x : Vals) : List Use := [
]
noncomputable def kEnt : Seg := ⟨0, fun P T σ x => .code (.call (.ref 52) ⟨[.str (x.s 0) (x.t 0), .str (x.s 1) (x.t 1), .ref (x.r 0), .ref (x.r 1), .ref (x.r 2), .int (x.i 0) (x.t 2)], []⟩), kEnt_ins, [0, 1], kEnt_outs, fun P T σ τ x => .res (.ok (.ret (.ref (σ 1 + 417)))), 3, 44, 84, 0, fun _ => 554, fun _ => kEnt_sc, kEnt_us⟩

section
variable {F : Fix} {σ τ : Nat → Nat} {lim : Nat} {us : List Use} {K : Addr → Option Obj} {dr : Drawn} {os : OsState} {m₀ i₀ : Nat}
-- DEPS kEnt []
theorem kEnt_us_ok {x : Vals} (H : F.Ok) (O : VOk (F.vc σ τ 0 (kEnt_us F.w.params (F.kt F.w.params) σ τ x) K dr os m₀ i₀)) : UsesOk (F.vc σ τ 0 (kEnt_us F.w.params (F.kt F.w.params) σ τ x) K dr os m₀ i₀) := uses_all (
  all_nil)
theorem kEnt_ok (hkEnt : kEnt.Run F.kt) (H : F.Ok) (O : VOk (F.vc σ τ lim us K dr os m₀ i₀)) (hlim : lim ≤ kEnt.n0) (m i : Nat) {js : List Nat} (hnd : js.Nodup) (hL : js.length = kEnt.L) {x : Vals} : UseOk (F.vc σ τ lim us K dr os m₀ i₀) (kEnt.use F.w.params (F.kt F.w.params) σ τ m i js x) :=
  Seg.useOk hkEnt H O hnd hL rfl (by decide) (by decide) hlim ⟨_, rfl⟩ ⟨_, rfl⟩ fun K' O' => kEnt_us_ok (x := x)  (H := H) (O := O')
end

/-! kSettle: 269 steps, 239 in the other world; 33 t, 1 s, 0 i, 0 b, 30 v, 0 r, 1 e, 0 a -/
noncomputable def kSettle_sc : List Nat := [0, 6, 6, 7, 7, 6, 1, 0, 0, 0, 0, 1, 0, 0, 0, 1, 1, 0, 2, 3, 3, 3, 3, 7, 4, 0, 0, 0, 0, 4, 0, 0, 0, 4, 4, 0, 5, 1, 8, 8, 0, 8, 9, 0, 9, 9, 0, 9, 9, 9, 0, 9, 9, 9, 8, 9, 9, 13, 6, 6, 11, 6, 10, 10, 0, 10, 14, 0, 14, 14, 0, 14, 14, 14, 0, 14, 14, 14, 10, 14, 14, 18, 6, 6, 16, 6, 15, 15, 0, 15, 19, 0, 19, 19, 0, 19, 19, 19, 0, 19, 19, 19, 15, 19, 19, 23, 21, 20, 24, 20, 0, 20, 24, 20, 24, 20, 24, 20, 24, 6, 15, 15, 0, 15, 25, 0, 25, 0, 25, 25, 25, 15, 25, 25, 27]
noncomputable def kSettle_sc1 : List Nat := [0, 6, 6, 7, 7, 6, 1, 0, 0, 0, 0, 1, 0, 0, 0, 1, 1, 0, 2, 3, 3, 3, 3, 7, 4, 0, 0, 0, 0, 4, 0, 0, 0, 4, 4, 0, 5, 1, 8, 8, 0, 8, 9, 0, 9, 0, 9, 9, 9, 8, 9, 9, 13, 6, 6, 11, 6, 10, 10, 0, 10, 14, 0, 14, 0, 14, 14, 14, 10, 14, 14, 18, 6, 6, 16, 6, 15, 15, 0, 15, 19, 0, 19, 0, 19, 19, 19, 15, 19, 19, 23, 21, 20, 24, 20, 0, 20, 24, 20, 24, 20, 24, 20, 24, 6, 15, 15, 0, 15, 25, 0, 25, 0, 25, 25, 25, 15, 25, 25, 27]
noncomputable def kSettle_ins (P : Params) (σ : Nat → Nat) (x : Vals) : List Obj := [
  inst 141 (σ 1 + 417),
  mkD P kR (rg x.t 0 15) (rg x.v 0 8 ++ [.ref (σ 2 + 417)] ++ rg x.v 8 6) 15,
  dO (x.e 0) (x.n 0),
  inst 52 (σ 4 + 417),
  mkD P kE ([(x.t 15), (x.t 16)] ++ rg x.t 18 15) ([x.v 14, .str (x.s 0) (x.t 17)] ++ rg x.v 15 15) 17]
noncomputable def kSettle_outs (P : Params) (σ τ : Nat → Nat) (x : Vals) : List Obj := [
  inst 141 (σ 1 + 417),
  nth (kSettle_ins P σ x) 1,
  dO (x.e 0) (x.n 0),
  inst 52 (σ 4 + 417),
  nth (kSettle_ins P σ x) 4]
noncomputable def kSettle_us (P : Params) (T : KT) (σ τ : Nat → Nat) (x : Vals) : List Use := [
  dget3Use σ 8 3 2 (x.e 0) (x.n 0) (x.s 0) (x.t 17) (.ref (σ 7 + 417)) (.ref (σ 7 + 417))]
structure kSettle_facts (P : Params) (σ τ : Nat → Nat) (x : Vals) : Prop where
  f0 : AllStr (x.e 0)
  f1 : lookS (x.e 0) (x.s 0) = none
noncomputable def kSettle : Seg := ⟨5, fun P T σ x => .code (.call (.ref 171) ⟨[.ref (σ 0 + 417), .ref (σ 3 + 417)], []⟩), kSettle_ins, [0, 1, 2, 3, 4], kSettle_outs, fun P T σ τ x => .res (.ok (.ret (.none))), 22, 6, 84, 90, fun c => match c with | true => 240 | false => 270, fun c => match c with | true => kSettle_sc1 | false => kSettle_sc, kSettle_us⟩

section
variable {F : Fix} {σ τ : Nat → Nat} {lim : Nat} {us : List Use} {K : Addr → Option Obj} {dr : Drawn} {os : OsState} {m₀ i₀ : Nat}
-- DEPS kSettle []
theorem kSettle_us_ok {x : Vals} (H : F.Ok) (O : VOk (F.vc σ τ 90 (kSettle_us F.w.params (F.kt F.w.params) σ τ x) K dr os m₀ i₀)) (hf : kSettle_facts F.w.params σ τ x) : UsesOk (F.vc σ τ 90 (kSettle_us F.w.params (F.kt F.w.params) σ τ x) K dr os m₀ i₀) := uses_all (
  all_cons (dget3_none O _ _ _ _ _ _ hf.f0 hf.f1) <|
  all_nil)
theorem kSettle_ok (hkSettle : kSettle.Run F.kt) (H : F.Ok) (O : VOk (F.vc σ τ lim us K dr os m₀ i₀)) (hlim : lim ≤ kSettle.n0) (m i : Nat) {js : List Nat} (hnd : js.Nodup) (hL : js.length = kSettle.L) {x : Vals} (hf : kSettle_facts F.w.params (Seg.σ' σ js m) (Seg.τ' τ i) x) : UseOk (F.vc σ τ lim us K dr os m₀ i₀) (kSettle.use F.w.params (F.kt F.w.params) σ τ m i js x) :=
  Seg.useOk hkSettle H O hnd hL rfl (by decide) (by decide) hlim ⟨_, rfl⟩ ⟨_, rfl⟩ fun K' O' => kSettle_us_ok (x := x)  (H := H) (O := O') (hf := hf)
end

/-! kWhole: 139 steps, 139 in the other world; 0 t, 0 s, 0 i, 0 b, 0 v, 1 r, 0 e, 0 a -/
noncomputable def kWhole_sc : List Nat := [0, 1, 1, 0, 1, 0, 0, 0, 0, 0, 0, 0, 0, 0, 0, 0, 0, 0, 0, 0, 0, 0, 0, 0, 0, 0, 0, 0, 0, 0, 0, 0, 0, 0, 0, 3, 0, 3, 0, 0, 0, 0, 0, 0, 4, 4, 4, 4, 4, 4, 4, 4, 3, 0, 0, 0, 0, 3, 0, 3, 0, 3, 0, 0, 0, 3, 0, 2, 2, 2, 4, 4, 3, 0, 0, 0, 0, 3, 0, 3, 0, 3, 0, 0, 0, 3, 0, 2, 2, 2]
noncomputable def kWhole_ins (P : Params) (σ : Nat → Nat) (x : Vals) : List Obj := [
]
noncomputable def kWhole_outs (P : Params) (σ τ : Nat → Nat) (x : Vals) : List Obj := [
  mkD P kU [(τ 5), (τ 7)] [.ref (x.r 0), .none] 2,
  inst 244 (σ 1 + 417)]
noncomputable def kWhole_us (P : Params) (T : KT) (σ τ : Nat → Nat) (x : Vals) : List Use := [
]
noncomputable def kWhole : Seg := ⟨0, fun P T σ x => .code (.call (.ref 283) ⟨[.ref (x.r 0)], []⟩), kWhole_ins, [1, 2], kWhole_outs, fun P T σ τ x => .res (.ok (.ret (.ref (σ 2 + 417)))), 4, 8, 84, 0, fun _ => 140, fun _ => kWhole_sc, kWhole_us⟩

section
variable {F : Fix} {σ τ : Nat → Nat} {lim : Nat} {us : List Use} {K : Addr → Option Obj} {dr : Drawn} {os : OsState} {m₀ i₀ : Nat}
-- DEPS kWhole []
theorem kWhole_us_ok {x : Vals} (H : F.Ok) (O : VOk (F.vc σ τ 0 (kWhole_us F.w.params (F.kt F.w.params) σ τ x) K dr os m₀ i₀)) : UsesOk (F.vc σ τ 0 (kWhole_us F.w.params (F.kt F.w.params) σ τ x) K dr os m₀ i₀) := uses_all (
  all_nil)
theorem kWhole_ok (hkWhole : kWhole.Run F.kt) (H : F.Ok) (O : VOk (F.vc σ τ lim us K dr os m₀ i₀)) (hlim : lim ≤ kWhole.n0) (m i : Nat) {js : List Nat} (hnd : js.Nodup) (hL : js.length = kWhole.L) {x : Vals} : UseOk (F.vc σ τ lim us K dr os m₀ i₀) (kWhole.use F.w.params (F.kt F.w.params) σ τ m i js x) :=
  Seg.useOk hkWhole H O hnd hL rfl (by decide) (by decide) hlim ⟨_, rfl⟩ ⟨_, rfl⟩ fun K' O' => kWhole_us_ok (x := x)  (H := H) (O := O')
end

end Mine
end
section
set_option maxRecDepth 100000
set_option maxHeartbeats 0
namespace Mine
open PySem PySem.W PySem.W.X
/-! kDeclP: 754 steps, 754 in the other world; 53 t, 1 s, 1 i, 0 b, 36 v, 0 r, 2 e, 1 a -/
noncomputable def kDeclP_sc : List Nat := [0, 10, 10, 10, 10, 0, 10, 10, 0, 0, 0, 11, 11, 11, 11, 11, 1, 0, 0, 0, 0, 1, 0, 0, 0, 1, 1, 0, 2, 0, 0, 11, 11, 0, 1, 11, 3, 0, 0, 0, 0, 3, 0, 0, 0, 3, 3, 0, 4, 6, 0, 0, 0, 0, 6, 0, 0, 0, 6, 6, 0, 7, 0, 6, 0, 0, 0, 0, 6, 0, 6, 0, 6, 0, 0, 0, 6, 0, 7, 7, 7, 11, 3, 0, 0, 0, 0, 3, 0, 0, 0, 3, 3, 0, 4, 6, 0, 0, 0, 0, 6, 0, 0, 0, 6, 6, 0, 7, 0, 11, 1, 0, 0, 0, 0, 1, 0, 1, 0, 1, 0, 0, 0, 1, 0, 2, 2, 2, 11, 11, 1, 0, 0, 0, 0, 1, 0, 1, 0, 1, 0, 0, 0, 1, 0, 2, 2, 2, 11, 3, 0, 0, 0, 0, 3, 0, 0, 0, 3, 3, 0, 4, 11, 1, 0, 0, 0, 0, 1, 0, 1, 0, 1, 0, 0, 0, 1, 0, 2, 2, 2, 0, 11, 11, 0, 0, 0, 34, 34, 34, 34, 34, 1, 0, 0, 0, 0, 1, 0, 0, 0, 1, 1, 0, 2, 2, 0, 34, 0, 0, 0, 35, 35, 35, 35, 35, 0, 35, 3, 0, 0, 0, 0, 3, 0, 0, 0, 3, 3, 0, 4, 0, 0, 0, 3, 35, 3, 0, 0, 0, 0, 3, 0, 0, 0, 3, 3, 0, 4, 35, 35, 35, 6, 0, 0, 0, 0, 6, 0, 0, 0, 6, 6, 0, 7, 0, 0, 0, 4, 35, 34, 34, 34, 6, 0, 0, 0, 0, 6, 0, 0, 0, 6, 6, 0, 7, 8, 8, 8, 8, 34, 1, 0, 0, 0, 0, 1, 0, 0, 0, 1, 1, 0, 2, 5, 34, 34, 34, 0, 34, 6, 0, 0, 0, 0, 6, 0, 0, 0, 6, 6, 0, 7, 34, 1, 0, 0, 0, 0, 1, 0, 0, 0, 1, 1, 0, 2, 8, 8, 6, 34, 7, 34, 1, 0, 0, 0, 0, 1, 0, 0, 0, 1, 1, 0, 2, 34, 1, 0, 0, 0, 0, 1, 0, 1, 0, 1, 0, 0, 0, 1, 0, 2, 2, 2, 11, 3, 0, 0, 0, 0, 3, 0, 0, 0, 3, 3, 0, 4, 5, 5, 5, 5, 11, 1, 0, 0, 0, 0, 1, 0, 0, 0, 1, 1, 0, 2, 8, 36, 36, 36, 36, 11, 0, 36, 36, 36, 36, 11, 3, 0, 0, 0, 0, 3, 0, 0, 0, 3, 3, 0, 4, 9, 9, 9, 9, 11, 9, 0, 10, 0, 0, 0, 37, 37, 37, 1, 0, 0, 0, 0, 1, 0, 1, 0, 1, 0, 0, 0, 1, 0, 2, 2, 2]
noncomputable def kDeclP_ins (P : Params) (σ : Nat → Nat) (x : Vals) : List Obj := [
  inst 52 (σ 1 + 417),
  mkD P kE ([(x.t 0), (x.t 2)] ++ rg x.t 4 15) ([.str (.mk #[115, 117, 98]) (x.t 1), .str (.mk #[x.n 200 + 102]) (x.t 3)] ++ rg x.v 0 15) 17,
  inst 141 (σ 3 + 417),
  mkD P kR ([(x.t 19)] ++ rg x.t 21 7 ++ rg x.t 29 7) ([.str (.mk #[112, 97, 99, 107, 97, 103, 101]) (x.t 20), x.v 15, .ref (σ 5 + 417), .ref (σ 5 + 417), x.v 16, x.v 17, x.v 18, .str (x.s 0) (x.t 28), .ref (σ 4 + 417), .ref (σ 8 + 417)] ++ rg x.v 19 5) 15,
  dO (x.e 0) (x.n 0),
  inst 141 (σ 6 + 417),
  mkD P kR ([(x.t 36)] ++ rg x.t 38 4 ++ rg x.t 43 10) ([.str (.mk #[114, 111, 111, 116]) (x.t 37), x.v 24, x.v 25, x.v 26, .int (x.i 0) (x.t 42)] ++ rg x.v 27 7 ++ [.ref (σ 7 + 417), x.v 34, x.v 35]) 15,
  dO (x.e 1) (x.n 1),
  lO (x.a 0) (x.n 100)]
noncomputable def kDeclP_outs (P : Params) (σ τ : Nat → Nat) (x : Vals) : List Obj := [
  inst 52 (σ 1 + 417),
  mkD P kE ([(x.t 0), (x.t 2)] ++ rg x.t 4 15) ([.str (.mk #[115, 117, 98]) (x.t 1), .str (.mk #[x.n 200 + 102]) (x.t 3)] ++ rg x.v 0 4 ++ [.int (x.i 0 + 1) (τ 15), .str (.mk #[x.n 200 + 102]) (x.t 3), .ref (σ 2 + 417), .str (x.s 0) (x.t 28), x.v 8, x.v 9, .bool true] ++ rg x.v 11 4) 17,
  inst 141 (σ 3 + 417),
  nth (kDeclP_ins P σ x) 3,
  dO ((x.e 0).push (ent P (.mk #[x.n 200 + 102]) (x.t 3) (.ref (σ 35 + 417)))) (x.n 0 + 1),
  inst 141 (σ 6 + 417),
  mkD P kR ([(x.t 36)] ++ rg x.t 38 4 ++ rg x.t 43 10) ([.str (.mk #[114, 111, 111, 116]) (x.t 37), x.v 24, x.v 25, x.v 26, .int (x.i 0 + 1) (τ 15)] ++ rg x.v 27 7 ++ [.ref (σ 7 + 417), x.v 34, x.v 35]) 15,
  dO ((x.e 1).push (ent P (.mk #[x.n 200 + 102]) (x.t 3) (.int (1) (τ 44)))) (x.n 1 + 1),
  lO ((x.a 0).push (.ref (σ 0 + 417))) (x.n 100 + 1),
  lO #[.ref (σ 0 + 417)] 1]
noncomputable def kDeclP_us (P : Params) (T : KT) (σ τ : Nat → Nat) (x : Vals) : List Use := [
  kSettle.use P T σ τ 11 6 [2, 3, 4, 0, 1] (vals ([(x.t 19)] ++ rg x.t 21 7 ++ rg x.t 29 7 ++ [(x.t 0)] ++ rg x.t 2 17) [(.mk #[x.n 200 + 102])] [] [] [] [(x.e 0)] [] [(x.n 0)] [] ([.str (.mk #[112, 97, 99, 107, 97, 103, 101]) (x.t 20), x.v 15, .ref (σ 5 + 417), .ref (σ 5 + 417), x.v 16, x.v 17, x.v 18, .str (x.s 0) (x.t 28), .ref (σ 8 + 417)] ++ rg x.v 19 5 ++ [.str (.mk #[115, 117, 98]) (x.t 1)] ++ rg x.v 0 15) []),
  cmpUse "str.__eq__" 34 31 (.str (.mk #[115, 117, 98]) (x.t 1)) (.str (.mk #[101, 120, 99, 101, 112, 116, 105, 111, 110]) (τ 30)) false,
  kindUse 35 34 (.mk #[112, 97, 99, 107, 97, 103, 101]) (x.t 20) false,
  kindUse 35 37 (.mk #[114, 111, 111, 116]) (x.t 37) true,
  dget3Use σ 35 41 7 (x.e 1) (x.n 1) (.mk #[x.n 200 + 102]) (x.t 3) (.int (0) (τ 40)) (.int (0) (τ 40)),
  dnewUse P σ 35 47 7 (x.e 1) (x.n 1) (.mk #[x.n 200 + 102]) (x.t 3) (.int (1) (τ 44)),
  cmpUse "int.__eq__" 35 49 (.int (0) (τ 40)) (.int (0) (τ 48)) true,
  ddfltUse P σ 36 54 4 (x.e 0) (x.n 0) (.mk #[x.n 200 + 102]) (x.t 3) (.ref (σ 35 + 417)),
  appUse σ 36 56 8 (x.a 0) (x.n 100) (.ref (σ 0 + 417))]
structure kDeclP_facts (P : Params) (σ τ : Nat → Nat) (x : Vals) : Prop where
  f0 : kSettle_facts P (Seg.σ' σ [2, 3, 4, 0, 1] 11) (Seg.τ' τ 6) (vals ([(x.t 19)] ++ rg x.t 21 7 ++ rg x.t 29 7 ++ [(x.t 0)] ++ rg x.t 2 17) [(.mk #[x.n 200 + 102])] [] [] [] [(x.e 0)] [] [(x.n 0)] [] ([.str (.mk #[112, 97, 99, 107, 97, 103, 101]) (x.t 20), x.v 15, .ref (σ 5 + 417), .ref (σ 5 + 417), x.v 16, x.v 17, x.v 18, .str (x.s 0) (x.t 28), .ref (σ 8 + 417)] ++ rg x.v 19 5 ++ [.str (.mk #[115, 117, 98]) (x.t 1)] ++ rg x.v 0 15) [])
  f1 : AllStr (x.e 1)
  f2 : lookS (x.e 1) (.mk #[x.n 200 + 102]) = none
  f3 : ((x.e 1)).size ≤ 60
  f4 : AllStr (x.e 0)
  f5 : ((x.e 0)).size ≤ 60
  f6 : lookS (x.e 0) (.mk #[x.n 200 + 102]) = none
  f7 : ((x.a 0)).size ≤ 60
noncomputable def kDeclP : Seg := ⟨9, fun P T σ x => .code (.call (.ref 192) ⟨[.ref (σ 2 + 417), .ref (σ 0 + 417)], []⟩), kDeclP_ins, [0, 1, 2, 3, 4, 5, 6, 7, 8, 35], kDeclP_outs, fun P T σ τ x => .res (.ok (.ret (.none))), 28, 59, 76, 84, fun _ => 755, fun _ => kDeclP_sc, kDeclP_us⟩

section
variable {F : Fix} {σ τ : Nat → Nat} {lim : Nat} {us : List Use} {K : Addr → Option Obj} {dr : Drawn} {os : OsState} {m₀ i₀ : Nat}
-- DEPS kDeclP [kSettle, kEq, Top, kIeq]
theorem kDeclP_us_ok {x : Vals} (hkSettle : kSettle.Run F.kt) (hkEq : kEq.Run F.kt) (hTop : Tops F.kt) (hkIeq : kIeq.Run F.kt) (H : F.Ok) (O : VOk (F.vc σ τ 84 (kDeclP_us F.w.params (F.kt F.w.params) σ τ x) K dr os m₀ i₀)) (hf : kDeclP_facts F.w.params σ τ x) : UsesOk (F.vc σ τ 84 (kDeclP_us F.w.params (F.kt F.w.params) σ τ x) K dr os m₀ i₀) := uses_all (
  all_cons (kSettle_ok (hkSettle := hkSettle) (H := H) (O := O) (hlim := Nat.le_of_ble_eq_true rfl) (m := _) (i := _) (hnd := by decide) (hL := rfl) (hf := hf.f0)) <|
  all_cons (cmp_use hkEq H O (Nat.le_of_ble_eq_true rfl) _ _ (vals [(x.t 1), (τ 30)] [(.mk #[115, 117, 98]), (.mk #[101, 120, 99, 101, 112, 116, 105, 111, 110])] [] [] [] [] [] [] [] [] []) (Prod.ext (by kernel_rfl) rfl)) <|
  all_cons (kind_use hTop O _ _ _ _ (by kernel_rfl)) <|
  all_cons (kind_use hTop O _ _ _ _ (by kernel_rfl)) <|
  all_cons (dget3_none O _ _ _ _ _ _ hf.f1 hf.f2) <|
  all_cons (dnew_use O _ _ _ _ _ _ hf.f1 hf.f3 hf.f2) <|
  all_cons (cmp_use hkIeq H O (Nat.le_of_ble_eq_true rfl) _ _ (vals [(τ 40), (τ 48)] [] [(0), (0)] [] [] [] [] [] [] [] []) (Prod.ext (by kernel_rfl) rfl)) <|
  all_cons (ddflt_use O _ _ _ _ _ _ hf.f4 hf.f5 hf.f6) <|
  all_cons (app_use O _ _ _ _ hf.f7) <|
  all_nil)
theorem kDeclP_ok (hkDeclP : kDeclP.Run F.kt) (hkSettle : kSettle.Run F.kt) (hkEq : kEq.Run F.kt) (hTop : Tops F.kt) (hkIeq : kIeq.Run F.kt) (H : F.Ok) (O : VOk (F.vc σ τ lim us K dr os m₀ i₀)) (hlim : lim ≤ kDeclP.n0) (m i : Nat) {js : List Nat} (hnd : js.Nodup) (hL : js.length = kDeclP.L) {x : Vals} (hf : kDeclP_facts F.w.params (Seg.σ' σ js m) (Seg.τ' τ i) x) : UseOk (F.vc σ τ lim us K dr os m₀ i₀) (kDeclP.use F.w.params (F.kt F.w.params) σ τ m i js x) :=
  Seg.useOk hkDeclP H O hnd hL rfl (by decide) (by decide) hlim ⟨_, rfl⟩ ⟨_, rfl⟩ fun K' O' => kDeclP_us_ok (x := x) (hkSettle := hkSettle) (hkEq := hkEq) (hTop := hTop) (hkIeq := hkIeq) (H := H) (O := O') (hf := hf)
end

/-! kDeclQ: 817 steps, 817 in the other world; 54 t, 1 s, 1 i, 0 b, 36 v, 0 r, 2 e, 1 a -/
noncomputable def kDeclQ_sc : List Nat := [0, 10, 10, 10, 10, 0, 10, 10, 0, 0, 0, 11, 11, 11, 11, 11, 1, 0, 0, 0, 0, 1, 0, 0, 0, 1, 1, 0, 2, 0, 0, 11, 11, 0, 1, 11, 3, 0, 0, 0, 0, 3, 0, 0, 0, 3, 3, 0, 4, 6, 0, 0, 0, 0, 6, 0, 0, 0, 6, 6, 0, 7, 0, 6, 0, 0, 0, 0, 6, 0, 6, 0, 6, 0, 0, 0, 6, 0, 7, 7, 7, 11, 3, 0, 0, 0, 0, 3, 0, 0, 0, 3, 3, 0, 4, 6, 0, 0, 0, 0, 6, 0, 0, 0, 6, 6, 0, 7, 0, 11, 1, 0, 0, 0, 0, 1, 0, 1, 0, 1, 0, 0, 0, 1, 0, 2, 2, 2, 11, 11, 1, 0, 0, 0, 0, 1, 0, 1, 0, 1, 0, 0, 0, 1, 0, 2, 2, 2, 11, 3, 0, 0, 0, 0, 3, 0, 0, 0, 3, 3, 0, 4, 11, 1, 0, 0, 0, 0, 1, 0, 1, 0, 1, 0, 0, 0, 1, 0, 2, 2, 2, 0, 11, 11, 0, 0, 0, 34, 34, 34, 34, 34, 1, 0, 0, 0, 0, 1, 0, 0, 0, 1, 1, 0, 2, 2, 0, 34, 0, 0, 0, 35, 35, 35, 35, 35, 0, 35, 3, 0, 0, 0, 0, 3, 0, 0, 0, 3, 3, 0, 4, 0, 0, 0, 3, 35, 3, 0, 0, 0, 0, 3, 0, 0, 0, 3, 3, 0, 4, 35, 35, 35, 6, 0, 0, 0, 0, 6, 0, 0, 0, 6, 6, 0, 7, 0, 0, 0, 4, 35, 34, 34, 34, 6, 0, 0, 0, 0, 6, 0, 0, 0, 6, 6, 0, 7, 8, 8, 8, 8, 34, 1, 0, 0, 0, 0, 1, 0, 0, 0, 1, 1, 0, 2, 5, 34, 34, 34, 0, 34, 6, 0, 0, 0, 0, 6, 0, 0, 0, 6, 6, 0, 7, 34, 1, 0, 0, 0, 0, 1, 0, 0, 0, 1, 1, 0, 2, 8, 8, 6, 34, 7, 0, 34, 1, 0, 0, 0, 0, 1, 0, 0, 0, 1, 1, 0, 2, 34, 0, 0, 0, 36, 36, 36, 36, 36, 0, 0, 0, 0, 36, 0, 0, 0, 0, 0, 0, 34, 1, 0, 0, 0, 0, 1, 0, 1, 0, 1, 0, 0, 0, 1, 0, 2, 2, 2, 11, 3, 0, 0, 0, 0, 3, 0, 0, 0, 3, 3, 0, 4, 5, 5, 5, 5, 11, 1, 0, 0, 0, 0, 1, 0, 0, 0, 1, 1, 0, 2, 8, 37, 37, 37, 37, 11, 0, 37, 37, 37, 37, 11, 3, 0, 0, 0, 0, 3, 0, 0, 0, 3, 3, 0, 4, 9, 9, 9, 9, 11, 9, 0, 10, 0, 0, 0, 38, 38, 38, 1, 0, 0, 0, 0, 1, 0, 1, 0, 1, 0, 0, 0, 1, 0, 2, 2, 2]
noncomputable def kDeclQ_ins (P : Params) (σ : Nat → Nat) (x : Vals) : List Obj := [
  inst 52 (σ 1 + 417),
  mkD P kE ([(x.t 0), (x.t 2)] ++ rg x.t 4 15) ([.str (.mk #[115, 117, 98]) (x.t 1), .str (.mk #[x.n 200 + 102]) (x.t 3)] ++ rg x.v 0 15) 17,
  inst 141 (σ 3 + 417),
  mkD P kR ([(x.t 19)] ++ rg x.t 21 7 ++ rg x.t 29 7) ([.str (.mk #[112, 97, 99, 107, 97, 103, 101]) (x.t 20), x.v 15, .ref (σ 5 + 417), .ref (σ 5 + 417), x.v 16, x.v 17, x.v 18, .str (x.s 0) (x.t 28), .ref (σ 4 + 417), .ref (σ 8 + 417)] ++ rg x.v 19 5) 15,
  dO (x.e 0) (x.n 0),
  inst 141 (σ 6 + 417),
  mkD P kR ([(x.t 36)] ++ rg x.t 38 4 ++ rg x.t 43 10) ([.str (.mk #[114, 111, 111, 116]) (x.t 37), x.v 24, x.v 25, x.v 26, .int (x.i 0) (x.t 42)] ++ rg x.v 27 7 ++ [.ref (σ 7 + 417), x.v 34, x.v 35]) 15,
  dO (x.e 1) (x.n 1),
  lO (x.a 0) (x.n 100)]
noncomputable def kDeclQ_outs (P : Params) (σ τ : Nat → Nat) (x : Vals) : List Obj := [
  inst 52 (σ 1 + 417),
  mkD P kE ([(x.t 0), (x.t 2)] ++ rg x.t 4 15) ([.str (.mk #[115, 117, 98]) (x.t 1), .str (.mk #[x.n 200 + 102]) (x.t 3)] ++ rg x.v 0 4 ++ [.int (x.i 0 + 1) (τ 15), .str (.mk #[x.n 200 + 102, 35, 49]) (τ 54), .ref (σ 2 + 417), .str (x.s 0) (x.t 28), x.v 8, x.v 9, .bool true] ++ rg x.v 11 4) 17,
  inst 141 (σ 3 + 417),
  nth (kDeclQ_ins P σ x) 3,
  dO ((x.e 0).push (ent P (.mk #[x.n 200 + 102]) (x.t 3) (.ref (σ 36 + 417)))) (x.n 0 + 1),
  inst 141 (σ 6 + 417),
  mkD P kR ([(x.t 36)] ++ rg x.t 38 4 ++ rg x.t 43 10) ([.str (.mk #[114, 111, 111, 116]) (x.t 37), x.v 24, x.v 25, x.v 26, .int (x.i 0 + 1) (τ 15)] ++ rg x.v 27 7 ++ [.ref (σ 7 + 417), x.v 34, x.v 35]) 15,
  dO (setE (x.e 1) (.mk #[x.n 200 + 102]) (.int (2) (τ 44))) (x.n 1),
  lO ((x.a 0).push (.ref (σ 0 + 417))) (x.n 100 + 1),
  lO #[.ref (σ 0 + 417)] 1]
noncomputable def kDeclQ_us (P : Params) (T : KT) (σ τ : Nat → Nat) (x : Vals) : List Use := [
  kSettle.use P T σ τ 11 6 [2, 3, 4, 0, 1] (vals ([(x.t 19)] ++ rg x.t 21 7 ++ rg x.t 29 7 ++ [(x.t 0)] ++ rg x.t 2 17) [(.mk #[x.n 200 + 102])] [] [] [] [(x.e 0)] [] [(x.n 0)] [] ([.str (.mk #[112, 97, 99, 107, 97, 103, 101]) (x.t 20), x.v 15, .ref (σ 5 + 417), .ref (σ 5 + 417), x.v 16, x.v 17, x.v 18, .str (x.s 0) (x.t 28), .ref (σ 8 + 417)] ++ rg x.v 19 5 ++ [.str (.mk #[115, 117, 98]) (x.t 1)] ++ rg x.v 0 15) []),
  cmpUse "str.__eq__" 34 31 (.str (.mk #[115, 117, 98]) (x.t 1)) (.str (.mk #[101, 120, 99, 101, 112, 116, 105, 111, 110]) (τ 30)) false,
  kindUse 35 34 (.mk #[112, 97, 99, 107, 97, 103, 101]) (x.t 20) false,
  kindUse 35 37 (.mk #[114, 111, 111, 116]) (x.t 37) true,
  dget3Use σ 35 41 7 (x.e 1) (x.n 1) (.mk #[x.n 200 + 102]) (x.t 3) (.int (0) (τ 40)) (.int (1) (x.t 53)),
  doldUse σ 35 47 7 (x.e 1) (x.n 1) (.mk #[x.n 200 + 102]) (x.t 3) (.int (2) (τ 44)),
  cmpUse "int.__eq__" 35 49 (.int (1) (x.t 53)) (.int (0) (τ 48)) false,
  ddfltUse P σ 37 59 4 (x.e 0) (x.n 0) (.mk #[x.n 200 + 102]) (x.t 3) (.ref (σ 36 + 417)),
  appUse σ 37 61 8 (x.a 0) (x.n 100) (.ref (σ 0 + 417))]
structure kDeclQ_facts (P : Params) (σ τ : Nat → Nat) (x : Vals) : Prop where
  f0 : kSettle_facts P (Seg.σ' σ [2, 3, 4, 0, 1] 11) (Seg.τ' τ 6) (vals ([(x.t 19)] ++ rg x.t 21 7 ++ rg x.t 29 7 ++ [(x.t 0)] ++ rg x.t 2 17) [(.mk #[x.n 200 + 102])] [] [] [] [(x.e 0)] [] [(x.n 0)] [] ([.str (.mk #[112, 97, 99, 107, 97, 103, 101]) (x.t 20), x.v 15, .ref (σ 5 + 417), .ref (σ 5 + 417), x.v 16, x.v 17, x.v 18, .str (x.s 0) (x.t 28), .ref (σ 8 + 417)] ++ rg x.v 19 5 ++ [.str (.mk #[115, 117, 98]) (x.t 1)] ++ rg x.v 0 15) [])
  f1 : AllStr (x.e 1)
  f2 : lookS (x.e 1) (.mk #[x.n 200 + 102]) = some (.int (1) (x.t 53))
  f3 : ((x.e 1)).size ≤ 60
  f4 : (lookS (x.e 1) (.mk #[x.n 200 + 102])).isSome = true
  f5 : AllStr (x.e 0)
  f6 : ((x.e 0)).size ≤ 60
  f7 : lookS (x.e 0) (.mk #[x.n 200 + 102]) = none
  f8 : ((x.a 0)).size ≤ 60
noncomputable def kDeclQ : Seg := ⟨9, fun P T σ x => .code (.call (.ref 192) ⟨[.ref (σ 2 + 417), .ref (σ 0 + 417)], []⟩), kDeclQ_ins, [0, 1, 2, 3, 4, 5, 6, 7, 8, 36], kDeclQ_outs, fun P T σ τ x => .res (.ok (.ret (.none))), 29, 64, 76, 84, fun _ => 818, fun _ => kDeclQ_sc, kDeclQ_us⟩

section
variable {F : Fix} {σ τ : Nat → Nat} {lim : Nat} {us : List Use} {K : Addr → Option Obj} {dr : Drawn} {os : OsState} {m₀ i₀ : Nat}
-- DEPS kDeclQ [kSettle, kEq, Top, kIeq]
theorem kDeclQ_us_ok {x : Vals} (hkSettle : kSettle.Run F.kt) (hkEq : kEq.Run F.kt) (hTop : Tops F.kt) (hkIeq : kIeq.Run F.kt) (H : F.Ok) (O : VOk (F.vc σ τ 84 (kDeclQ_us F.w.params (F.kt F.w.params) σ τ x) K dr os m₀ i₀)) (hf : kDeclQ_facts F.w.params σ τ x) : UsesOk (F.vc σ τ 84 (kDeclQ_us F.w.params (F.kt F.w.params) σ τ x) K dr os m₀ i₀) := uses_all (
  all_cons (kSettle_ok (hkSettle := hkSettle) (H := H) (O := O) (hlim := Nat.le_of_ble_eq_true rfl) (m := _) (i := _) (hnd := by decide) (hL := rfl) (hf := hf.f0)) <|
  all_cons (cmp_use hkEq H O (Nat.le_of_ble_eq_true rfl) _ _ (vals [(x.t 1), (τ 30)] [(.mk #[115, 117, 98]), (.mk #[101, 120, 99, 101, 112, 116, 105, 111, 110])] [] [] [] [] [] [] [] [] []) (Prod.ext (by kernel_rfl) rfl)) <|
  all_cons (kind_use hTop O _ _ _ _ (by kernel_rfl)) <|
  all_cons (kind_use hTop O _ _ _ _ (by kernel_rfl)) <|
  all_cons (dget3_some O _ _ _ _ _ _ hf.f1 hf.f2) <|
  all_cons (dold_use O _ _ _ _ _ _ hf.f1 hf.f3 hf.f4) <|
  all_cons (cmp_use hkIeq H O (Nat.le_of_ble_eq_true rfl) _ _ (vals [(x.t 53), (τ 48)] [] [(1), (0)] [] [] [] [] [] [] [] []) (Prod.ext (by kernel_rfl) rfl)) <|
  all_cons (ddflt_use O _ _ _ _ _ _ hf.f5 hf.f6 hf.f7) <|
  all_cons (app_use O _ _ _ _ hf.f8) <|
  all_nil)
theorem kDeclQ_ok (hkDeclQ : kDeclQ.Run F.kt) (hkSettle : kSettle.Run F.kt) (hkEq : kEq.Run F.kt) (hTop : Tops F.kt) (hkIeq : kIeq.Run F.kt) (H : F.Ok) (O : VOk (F.vc σ τ lim us K dr os m₀ i₀)) (hlim : lim ≤ kDeclQ.n0) (m i : Nat) {js : List Nat} (hnd : js.Nodup) (hL : js.length = kDeclQ.L) {x : Vals} (hf : kDeclQ_facts F.w.params (Seg.σ' σ js m) (Seg.τ' τ i) x) : UseOk (F.vc σ τ lim us K dr os m₀ i₀) (kDeclQ.use F.w.params (F.kt F.w.params) σ τ m i js x) :=
  Seg.useOk hkDeclQ H O hnd hL rfl (by decide) (by decide) hlim ⟨_, rfl⟩ ⟨_, rfl⟩ fun K' O' => kDeclQ_us_ok (x := x) (hkSettle := hkSettle) (hkEq := hkEq) (hTop := hTop) (hkIeq := hkIeq) (H := H) (O := O') (hf := hf)
end

end Mine
end
section
set_option maxRecDepth 100000
set_option maxHeartbeats 0
namespace Mine
open PySem PySem.W PySem.W.X
/-! kLd: 366 steps, 366 in the other world; 86 t, 2 s, 3 i, 0 b, 67 v, 0 r, 2 e, 1 a -/
noncomputable def kLd_sc : List Nat := [0, 12, 12, 12, 12, 12, 12, 12, 12, 12, 12, 0, 12, 0, 0, 1, 12, 12, 0, 12, 0, 2, 0, 12, 0, 3, 12, 31, 31, 31, 0, 31, 32, 32, 0, 32, 32, 32, 31, 32, 32, 32, 0, 32, 32, 32, 31, 32, 32, 32, 0, 32, 32, 32, 31, 32, 32, 32, 0, 32, 32, 32, 31, 32, 32, 34, 12, 14, 0, 0, 0, 0, 14, 0, 14, 0, 14, 0, 0, 0, 14, 0, 13, 13, 13, 12, 14, 0, 0, 0, 0, 14, 0, 14, 0, 14, 0, 0, 0, 14, 0, 13, 13, 13, 12, 14, 0, 0, 0, 0, 14, 0, 14, 0, 14, 0, 0, 0, 14, 0, 13, 13, 13, 12, 4, 12, 14, 0, 0, 0, 0, 14, 0, 14, 0, 14, 0, 0, 0, 14, 0, 13, 13, 13, 0, 12, 12, 1, 0, 0, 0, 0, 1, 0, 0, 0, 1, 1, 0, 2, 12, 3, 0, 0, 0, 0, 3, 0, 0, 0, 3, 3, 0, 4, 12, 14, 0, 0, 0, 0, 14, 0, 0, 0, 14, 14, 0, 13, 12, 0, 0, 5, 12, 12, 12, 39, 0, 0, 0, 0, 39, 0, 39, 0, 39, 0, 0, 0, 39, 0, 38, 38, 38, 0, 12, 12, 0, 6, 12]
noncomputable def kLd_ins (P : Params) (σ : Nat → Nat) (x : Vals) : List Obj := [
  inst 223 (σ 1 + 417),
  mkD P kT ([(x.t 2), (x.t 3), (x.t 4)] ++ rg x.t 6 21) ([x.v 0, x.v 1, .int (x.i 0) (x.t 5)] ++ rg x.v 2 21) 24,
  inst 223 (σ 3 + 417),
  mkD P kT ([(x.t 27), (x.t 28), (x.t 29)] ++ rg x.t 31 21) ([x.v 23, x.v 24, .int (x.i 1) (x.t 30)] ++ rg x.v 25 21) 24,
  inst 141 (σ 5 + 417),
  mkD P kR ([(x.t 52)] ++ rg x.t 54 7 ++ rg x.t 62 7) ([.str (.mk #[112, 97, 99, 107, 97, 103, 101]) (x.t 53), x.v 46, .ref (σ 7 + 417), .ref (σ 7 + 417), x.v 47, x.v 48, x.v 49, .str (x.s 1) (x.t 61), .ref (σ 6 + 417), .ref (σ 10 + 417)] ++ rg x.v 50 5) 15,
  dO (x.e 0) (x.n 0),
  inst 141 (σ 8 + 417),
  mkD P kR ([(x.t 69)] ++ rg x.t 71 4 ++ rg x.t 76 10) ([.str (.mk #[114, 111, 111, 116]) (x.t 70), x.v 55, x.v 56, x.v 57, .int (x.i 2) (x.t 75)] ++ rg x.v 58 7 ++ [.ref (σ 9 + 417), x.v 65, x.v 66]) 15,
  dO (x.e 1) (x.n 1),
  lO (x.a 0) (x.n 100)]
noncomputable def kLd_outs (P : Params) (σ τ : Nat → Nat) (x : Vals) : List Obj := [
  inst 223 (σ 1 + 417),
  nth (kLd_ins P σ x) 1,
  inst 223 (σ 3 + 417),
  nth (kLd_ins P σ x) 3,
  inst 141 (σ 5 + 417),
  nth (kLd_ins P σ x) 5,
  dO ((x.e 0).push (ent P (.mk #[x.n 200 + 102]) (x.t 0) (.ref (σ 66 + 417)))) (x.n 0 + 1),
  inst 141 (σ 8 + 417),
  mkD P kR ([(x.t 69)] ++ rg x.t 71 4 ++ rg x.t 76 10) ([.str (.mk #[114, 111, 111, 116]) (x.t 70), x.v 55, x.v 56, x.v 57, .int (x.i 2 + 1) (τ 127)] ++ rg x.v 58 7 ++ [.ref (σ 9 + 417), x.v 65, x.v 66]) 15,
  dO ((x.e 1).push (ent P (.mk #[x.n 200 + 102]) (x.t 0) (.int (1) (τ 156)))) (x.n 1 + 1),
  lO ((x.a 0).push (.ref (σ 38 + 417))) (x.n 100 + 1),
  mkD P kS [(τ 8), (τ 10), (τ 12), (τ 14), (τ 16), (τ 18), (τ 21), (τ 24), (τ 26), (τ 28), (τ 30)] [.str (.mk #[x.n 200 + 102]) (x.t 0), .ref (σ 25 + 417), .ref (σ 28 + 417), .ref (σ 16 + 417), .ref (σ 17 + 417), .ref (σ 18 + 417), .int (0) (τ 19), .str (x.s 0) (x.t 1), .ref (σ 34 + 417), .none, .none] 11,
  inst 31 (σ 12 + 417),
  lO #[] 0,
  lO #[] 0,
  lO #[] 0,
  mkD P kU [(τ 39), (τ 41)] [.ref (σ 0 + 417), .none] 2,
  inst 244 (σ 21 + 417),
  tO #[.str (.mk #[120]) (τ 32), .str (.mk #[105, 110]) (τ 33), .ref (σ 22 + 417), .none],
  lO #[.ref (σ 24 + 417)] 0,
  mkD P kU [(τ 47), (τ 49)] [.ref (σ 2 + 417), .none] 2,
  inst 244 (σ 27 + 417),
  lO #[.int (0) (τ 57)] 0,
  tO #[.int (x.i 0) (x.t 5)],
  tO #[.ref (σ 35 + 417), .int (x.i 1) (x.t 30)],
  mkD P kE [(τ 73), (τ 75), (τ 77), (τ 79), (τ 81), (τ 83), (τ 86), (τ 89), (τ 91), (τ 94), (τ 96), (τ 98), (τ 100), (τ 102), (τ 104), (τ 106), (τ 108)] [.str (.mk #[115, 117, 98]) (τ 60), .str (.mk #[x.n 200 + 102]) (x.t 0), .ref (σ 36 + 417), .ref (σ 28 + 417), .ref (σ 13 + 417), .int (3) (τ 64), .int (x.i 2 + 1) (τ 127), .str (.mk #[x.n 200 + 102]) (x.t 0), .ref (σ 4 + 417), .str (x.s 1) (x.t 61), .none, .none, .bool true, .bool true, .bool false, .bool false, .bool false] 17,
  inst 52 (σ 37 + 417),
  lO #[.ref (σ 38 + 417)] 1]
noncomputable def kLd_us (P : Params) (T : KT) (σ τ : Nat → Nat) (x : Vals) : List Use := [
  kSub.use P T σ τ 12 5 [] (vals [(x.t 0)] [(.mk #[x.n 200 + 102])] [] [] [] [] [] [] [] [] []),
  kWhole.use P T σ τ 20 34 [] (vals [] [] [] [] [(σ 0 + 417)] [] [] [] [] [] []),
  kWhole.use P T σ τ 26 42 [] (vals [] [] [] [] [(σ 2 + 417)] [] [] [] [] [] []),
  cmpUse "str.__ne__" 34 57 (.str (x.s 0) (x.t 1)) (.str (.mk #[]) (τ 56)) true,
  kEnt.use P T σ τ 37 65 [] (vals [(τ 60), (x.t 0), (τ 64)] [(.mk #[115, 117, 98]), (.mk #[x.n 200 + 102])] [3] [] [(σ 36 + 417), (σ 28 + 417), (σ 13 + 417)] [] [] [] [] [] []),
  kDeclP.use P T σ τ 40 112 [38, 37, 4, 5, 6, 7, 8, 9, 10] (vals ([(τ 73), (τ 60), (τ 75), (x.t 0), (τ 77), (τ 79), (τ 81), (τ 83), (τ 86), (τ 89), (τ 91), (τ 94), (τ 96), (τ 98), (τ 100), (τ 102), (τ 104), (τ 106), (τ 108)] ++ rg x.t 52 34) [x.s 1] [x.i 2] [] [] [(x.e 0), (x.e 1)] [(x.a 0)] [(x.n 0), (x.n 1)] [(x.n 100)] ([.ref (σ 36 + 417), .ref (σ 28 + 417), .ref (σ 13 + 417), .int (3) (τ 64), .int (0) (τ 84), .str (.mk #[]) (τ 87), .none, .str (.mk #[]) (τ 92), .none, .none, .bool false, .bool true, .bool false, .bool false, .bool false] ++ rg x.v 46 21) [x.n 200])]
structure kLd_facts (P : Params) (σ τ : Nat → Nat) (x : Vals) : Prop where
  f0 : ((Str.cps (x.s 0)).toList != (Str.cps (.mk #[])).toList) = true
  f1 : kDeclP_facts P (Seg.σ' σ [38, 37, 4, 5, 6, 7, 8, 9, 10] 40) (Seg.τ' τ 112) (vals ([(τ 73), (τ 60), (τ 75), (x.t 0), (τ 77), (τ 79), (τ 81), (τ 83), (τ 86), (τ 89), (τ 91), (τ 94), (τ 96), (τ 98), (τ 100), (τ 102), (τ 104), (τ 106), (τ 108)] ++ rg x.t 52 34) [x.s 1] [x.i 2] [] [] [(x.e 0), (x.e 1)] [(x.a 0)] [(x.n 0), (x.n 1)] [(x.n 100)] ([.ref (σ 36 + 417), .ref (σ 28 + 417), .ref (σ 13 + 417), .int (3) (τ 64), .int (0) (τ 84), .str (.mk #[]) (τ 87), .none, .str (.mk #[]) (τ 92), .none, .none, .bool false, .bool true, .bool false, .bool false, .bool false] ++ rg x.v 46 21) [x.n 200])
noncomputable def kLd : Seg := ⟨11, fun P T σ x => .code (.call (.ref 410) ⟨[.ref (σ 4 + 417), .str (.mk #[x.n 200 + 102]) (x.t 0), .ref (σ 0 + 417), .ref (σ 2 + 417), .str (x.s 0) (x.t 1)], []⟩), kLd_ins, [0, 1, 2, 3, 4, 5, 6, 7, 8, 9, 10, 12, 13, 16, 17, 18, 21, 22, 24, 25, 27, 28, 34, 35, 36, 37, 38, 66], kLd_outs, fun P T σ τ x => .res (.ok (.ret (.ref (σ 38 + 417)))), 57, 171, 68, 76, fun _ => 367, fun _ => kLd_sc, kLd_us⟩

section
variable {F : Fix} {σ τ : Nat → Nat} {lim : Nat} {us : List Use} {K : Addr → Option Obj} {dr : Drawn} {os : OsState} {m₀ i₀ : Nat}
-- DEPS kLd [kSub, kWhole, kNe, kEnt, kDeclP, kSettle, kEq, Top, kIeq]
theorem kLd_us_ok {x : Vals} (hkSub : kSub.Run F.kt) (hkWhole : kWhole.Run F.kt) (hkNe : kNe.Run F.kt) (hkEnt : kEnt.Run F.kt) (hkDeclP : kDeclP.Run F.kt) (hkSettle : kSettle.Run F.kt) (hkEq : kEq.Run F.kt) (hTop : Tops F.kt) (hkIeq : kIeq.Run F.kt) (H : F.Ok) (O : VOk (F.vc σ τ 76 (kLd_us F.w.params (F.kt F.w.params) σ τ x) K dr os m₀ i₀)) (hf : kLd_facts F.w.params σ τ x) : UsesOk (F.vc σ τ 76 (kLd_us F.w.params (F.kt F.w.params) σ τ x) K dr os m₀ i₀) := uses_all (
  all_cons (kSub_ok (hkSub := hkSub) (H := H) (O := O) (hlim := Nat.le_of_ble_eq_true rfl) (m := _) (i := _) (hnd := by decide) (hL := rfl)) <|
  all_cons (kWhole_ok (hkWhole := hkWhole) (H := H) (O := O) (hlim := Nat.le_of_ble_eq_true rfl) (m := _) (i := _) (hnd := by decide) (hL := rfl)) <|
  all_cons (kWhole_ok (hkWhole := hkWhole) (H := H) (O := O) (hlim := Nat.le_of_ble_eq_true rfl) (m := _) (i := _) (hnd := by decide) (hL := rfl)) <|
  all_cons (cmp_use hkNe H O (Nat.le_of_ble_eq_true rfl) _ _ (vals [(x.t 1), (τ 56)] [(x.s 0), (.mk #[])] [] [] [] [] [] [] [] [] []) (Prod.ext hf.f0 rfl)) <|
  all_cons (kEnt_ok (hkEnt := hkEnt) (H := H) (O := O) (hlim := Nat.le_of_ble_eq_true rfl) (m := _) (i := _) (hnd := by decide) (hL := rfl)) <|
  all_cons (kDeclP_ok (hkDeclP := hkDeclP) (hkSettle := hkSettle) (hkEq := hkEq) (hTop := hTop) (hkIeq := hkIeq) (H := H) (O := O) (hlim := Nat.le_of_ble_eq_true rfl) (m := _) (i := _) (hnd := by decide) (hL := rfl) (hf := hf.f1)) <|
  all_nil)
theorem kLd_ok (hkLd : kLd.Run F.kt) (hkSub : kSub.Run F.kt) (hkWhole : kWhole.Run F.kt) (hkNe : kNe.Run F.kt) (hkEnt : kEnt.Run F.kt) (hkDeclP : kDeclP.Run F.kt) (hkSettle : kSettle.Run F.kt) (hkEq : kEq.Run F.kt) (hTop : Tops F.kt) (hkIeq : kIeq.Run F.kt) (H : F.Ok) (O : VOk (F.vc σ τ lim us K dr os m₀ i₀)) (hlim : lim ≤ kLd.n0) (m i : Nat) {js : List Nat} (hnd : js.Nodup) (hL : js.length = kLd.L) {x : Vals} (hf : kLd_facts F.w.params (Seg.σ' σ js m) (Seg.τ' τ i) x) : UseOk (F.vc σ τ lim us K dr os m₀ i₀) (kLd.use F.w.params (F.kt F.w.params) σ τ m i js x) :=
  Seg.useOk hkLd H O hnd hL rfl (by decide) (by decide) hlim ⟨_, rfl⟩ ⟨_, rfl⟩ fun K' O' => kLd_us_ok (x := x) (hkSub := hkSub) (hkWhole := hkWhole) (hkNe := hkNe) (hkEnt := hkEnt) (hkDeclP := hkDeclP) (hkSettle := hkSettle) (hkEq := hkEq) (hTop := hTop) (hkIeq := hkIeq) (H := H) (O := O') (hf := hf)
end

/-! kLa: 366 steps, 366 in the other world; 61 t, 2 s, 2 i, 0 b, 44 v, 0 r, 2 e, 1 a -/
noncomputable def kLa_sc : List Nat := [0, 10, 10, 10, 10, 10, 10, 10, 10, 10, 10, 0, 10, 0, 0, 1, 10, 10, 0, 10, 0, 2, 0, 10, 0, 3, 10, 29, 29, 29, 0, 29, 30, 30, 0, 30, 30, 30, 29, 30, 30, 30, 0, 30, 30, 30, 29, 30, 30, 30, 0, 30, 30, 30, 29, 30, 30, 30, 0, 30, 30, 30, 29, 30, 30, 32, 10, 12, 0, 0, 0, 0, 12, 0, 12, 0, 12, 0, 0, 0, 12, 0, 11, 11, 11, 10, 12, 0, 0, 0, 0, 12, 0, 12, 0, 12, 0, 0, 0, 12, 0, 11, 11, 11, 10, 12, 0, 0, 0, 0, 12, 0, 12, 0, 12, 0, 0, 0, 12, 0, 11, 11, 11, 10, 4, 10, 12, 0, 0, 0, 0, 12, 0, 12, 0, 12, 0, 0, 0, 12, 0, 11, 11, 11, 0, 10, 10, 1, 0, 0, 0, 0, 1, 0, 0, 0, 1, 1, 0, 2, 10, 1, 0, 0, 0, 0, 1, 0, 0, 0, 1, 1, 0, 2, 10, 12, 0, 0, 0, 0, 12, 0, 0, 0, 12, 12, 0, 11, 10, 0, 0, 5, 10, 10, 10, 37, 0, 0, 0, 0, 37, 0, 37, 0, 37, 0, 0, 0, 37, 0, 36, 36, 36, 0, 10, 10, 0, 6, 10]
noncomputable def kLa_ins (P : Params) (σ : Nat → Nat) (x : Vals) : List Obj := [
  inst 223 (σ 1 + 417),
  mkD P kT ([(x.t 2), (x.t 3), (x.t 4)] ++ rg x.t 6 21) ([x.v 0, x.v 1, .int (x.i 0) (x.t 5)] ++ rg x.v 2 21) 24,
  inst 141 (σ 3 + 417),
  mkD P kR ([(x.t 27)] ++ rg x.t 29 7 ++ rg x.t 37 7) ([.str (.mk #[112, 97, 99, 107, 97, 103, 101]) (x.t 28), x.v 23, .ref (σ 5 + 417), .ref (σ 5 + 417), x.v 24, x.v 25, x.v 26, .str (x.s 1) (x.t 36), .ref (σ 4 + 417), .ref (σ 8 + 417)] ++ rg x.v 27 5) 15,
  dO (x.e 0) (x.n 0),
  inst 141 (σ 6 + 417),
  mkD P kR ([(x.t 44)] ++ rg x.t 46 4 ++ rg x.t 51 10) ([.str (.mk #[114, 111, 111, 116]) (x.t 45), x.v 32, x.v 33, x.v 34, .int (x.i 1) (x.t 50)] ++ rg x.v 35 7 ++ [.ref (σ 7 + 417), x.v 42, x.v 43]) 15,
  dO (x.e 1) (x.n 1),
  lO (x.a 0) (x.n 100)]
noncomputable def kLa_outs (P : Params) (σ τ : Nat → Nat) (x : Vals) : List Obj := [
  inst 223 (σ 1 + 417),
  nth (kLa_ins P σ x) 1,
  inst 141 (σ 3 + 417),
  nth (kLa_ins P σ x) 3,
  dO ((x.e 0).push (ent P (.mk #[x.n 200 + 102]) (x.t 0) (.ref (σ 64 + 417)))) (x.n 0 + 1),
  inst 141 (σ 6 + 417),
  mkD P kR ([(x.t 44)] ++ rg x.t 46 4 ++ rg x.t 51 10) ([.str (.mk #[114, 111, 111, 116]) (x.t 45), x.v 32, x.v 33, x.v 34, .int (x.i 1 + 1) (τ 127)] ++ rg x.v 35 7 ++ [.ref (σ 7 + 417), x.v 42, x.v 43]) 15,
  dO ((x.e 1).push (ent P (.mk #[x.n 200 + 102]) (x.t 0) (.int (1) (τ 156)))) (x.n 1 + 1),
  lO ((x.a 0).push (.ref (σ 36 + 417))) (x.n 100 + 1),
  mkD P kS [(τ 8), (τ 10), (τ 12), (τ 14), (τ 16), (τ 18), (τ 21), (τ 24), (τ 26), (τ 28), (τ 30)] [.str (.mk #[x.n 200 + 102]) (x.t 0), .ref (σ 23 + 417), .ref (σ 26 + 417), .ref (σ 14 + 417), .ref (σ 15 + 417), .ref (σ 16 + 417), .int (0) (τ 19), .str (x.s 0) (x.t 1), .ref (σ 32 + 417), .none, .none] 11,
  inst 31 (σ 10 + 417),
  lO #[] 0,
  lO #[] 0,
  lO #[] 0,
  mkD P kU [(τ 39), (τ 41)] [.ref (σ 0 + 417), .none] 2,
  inst 244 (σ 19 + 417),
  tO #[.str (.mk #[120]) (τ 32), .str (.mk #[105, 110]) (τ 33), .ref (σ 20 + 417), .none],
  lO #[.ref (σ 22 + 417)] 0,
  mkD P kU [(τ 47), (τ 49)] [.ref (σ 0 + 417), .none] 2,
  inst 244 (σ 25 + 417),
  lO #[.int (0) (τ 57)] 0,
  tO #[.int (x.i 0) (x.t 5)],
  tO #[.ref (σ 33 + 417), .int (x.i 0) (x.t 5)],
  mkD P kE [(τ 73), (τ 75), (τ 77), (τ 79), (τ 81), (τ 83), (τ 86), (τ 89), (τ 91), (τ 94), (τ 96), (τ 98), (τ 100), (τ 102), (τ 104), (τ 106), (τ 108)] [.str (.mk #[115, 117, 98]) (τ 60), .str (.mk #[x.n 200 + 102]) (x.t 0), .ref (σ 34 + 417), .ref (σ 26 + 417), .ref (σ 11 + 417), .int (3) (τ 64), .int (x.i 1 + 1) (τ 127), .str (.mk #[x.n 200 + 102]) (x.t 0), .ref (σ 2 + 417), .str (x.s 1) (x.t 36), .none, .none, .bool true, .bool true, .bool false, .bool false, .bool false] 17,
  inst 52 (σ 35 + 417),
  lO #[.ref (σ 36 + 417)] 1]
noncomputable def kLa_us (P : Params) (T : KT) (σ τ : Nat → Nat) (x : Vals) : List Use := [
  kSub.use P T σ τ 10 5 [] (vals [(x.t 0)] [(.mk #[x.n 200 + 102])] [] [] [] [] [] [] [] [] []),
  kWhole.use P T σ τ 18 34 [] (vals [] [] [] [] [(σ 0 + 417)] [] [] [] [] [] []),
  kWhole.use P T σ τ 24 42 [] (vals [] [] [] [] [(σ 0 + 417)] [] [] [] [] [] []),
  cmpUse "str.__ne__" 32 57 (.str (x.s 0) (x.t 1)) (.str (.mk #[]) (τ 56)) true,
  kEnt.use P T σ τ 35 65 [] (vals [(τ 60), (x.t 0), (τ 64)] [(.mk #[115, 117, 98]), (.mk #[x.n 200 + 102])] [3] [] [(σ 34 + 417), (σ 26 + 417), (σ 11 + 417)] [] [] [] [] [] []),
  kDeclP.use P T σ τ 38 112 [36, 35, 2, 3, 4, 5, 6, 7, 8] (vals ([(τ 73), (τ 60), (τ 75), (x.t 0), (τ 77), (τ 79), (τ 81), (τ 83), (τ 86), (τ 89), (τ 91), (τ 94), (τ 96), (τ 98), (τ 100), (τ 102), (τ 104), (τ 106), (τ 108)] ++ rg x.t 27 34) [x.s 1] [x.i 1] [] [] [(x.e 0), (x.e 1)] [(x.a 0)] [(x.n 0), (x.n 1)] [(x.n 100)] ([.ref (σ 34 + 417), .ref (σ 26 + 417), .ref (σ 11 + 417), .int (3) (τ 64), .int (0) (τ 84), .str (.mk #[]) (τ 87), .none, .str (.mk #[]) (τ 92), .none, .none, .bool false, .bool true, .bool false, .bool false, .bool false] ++ rg x.v 23 21) [x.n 200])]
structure kLa_facts (P : Params) (σ τ : Nat → Nat) (x : Vals) : Prop where
  f0 : ((Str.cps (x.s 0)).toList != (Str.cps (.mk #[])).toList) = true
  f1 : kDeclP_facts P (Seg.σ' σ [36, 35, 2, 3, 4, 5, 6, 7, 8] 38) (Seg.τ' τ 112) (vals ([(τ 73), (τ 60), (τ 75), (x.t 0), (τ 77), (τ 79), (τ 81), (τ 83), (τ 86), (τ 89), (τ 91), (τ 94), (τ 96), (τ 98), (τ 100), (τ 102), (τ 104), (τ 106), (τ 108)] ++ rg x.t 27 34) [x.s 1] [x.i 1] [] [] [(x.e 0), (x.e 1)] [(x.a 0)] [(x.n 0), (x.n 1)] [(x.n 100)] ([.ref (σ 34 + 417), .ref (σ 26 + 417), .ref (σ 11 + 417), .int (3) (τ 64), .int (0) (τ 84), .str (.mk #[]) (τ 87), .none, .str (.mk #[]) (τ 92), .none, .none, .bool false, .bool true, .bool false, .bool false, .bool false] ++ rg x.v 23 21) [x.n 200])
noncomputable def kLa : Seg := ⟨9, fun P T σ x => .code (.call (.ref 410) ⟨[.ref (σ 2 + 417), .str (.mk #[x.n 200 + 102]) (x.t 0), .ref (σ 0 + 417), .ref (σ 0 + 417), .str (x.s 0) (x.t 1)], []⟩), kLa_ins, [0, 1, 2, 3, 4, 5, 6, 7, 8, 10, 11, 14, 15, 16, 19, 20, 22, 23, 25, 26, 32, 33, 34, 35, 36, 64], kLa_outs, fun P T σ τ x => .res (.ok (.ret (.ref (σ 36 + 417)))), 57, 171, 68, 76, fun _ => 367, fun _ => kLa_sc, kLa_us⟩

section
variable {F : Fix} {σ τ : Nat → Nat} {lim : Nat} {us : List Use} {K : Addr → Option Obj} {dr : Drawn} {os : OsState} {m₀ i₀ : Nat}
-- DEPS kLa [kSub, kWhole, kNe, kEnt, kDeclP, kSettle, kEq, Top, kIeq]
theorem kLa_us_ok {x : Vals} (hkSub : kSub.Run F.kt) (hkWhole : kWhole.Run F.kt) (hkNe : kNe.Run F.kt) (hkEnt : kEnt.Run F.kt) (hkDeclP : kDeclP.Run F.kt) (hkSettle : kSettle.Run F.kt) (hkEq : kEq.Run F.kt) (hTop : Tops F.kt) (hkIeq : kIeq.Run F.kt) (H : F.Ok) (O : VOk (F.vc σ τ 76 (kLa_us F.w.params (F.kt F.w.params) σ τ x) K dr os m₀ i₀)) (hf : kLa_facts F.w.params σ τ x) : UsesOk (F.vc σ τ 76 (kLa_us F.w.params (F.kt F.w.params) σ τ x) K dr os m₀ i₀) := uses_all (
  all_cons (kSub_ok (hkSub := hkSub) (H := H) (O := O) (hlim := Nat.le_of_ble_eq_true rfl) (m := _) (i := _) (hnd := by decide) (hL := rfl)) <|
  all_cons (kWhole_ok (hkWhole := hkWhole) (H := H) (O := O) (hlim := Nat.le_of_ble_eq_true rfl) (m := _) (i := _) (hnd := by decide) (hL := rfl)) <|
  all_cons (kWhole_ok (hkWhole := hkWhole) (H := H) (O := O) (hlim := Nat.le_of_ble_eq_true rfl) (m := _) (i := _) (hnd := by decide) (hL := rfl)) <|
  all_cons (cmp_use hkNe H O (Nat.le_of_ble_eq_true rfl) _ _ (vals [(x.t 1), (τ 56)] [(x.s 0), (.mk #[])] [] [] [] [] [] [] [] [] []) (Prod.ext hf.f0 rfl)) <|
  all_cons (kEnt_ok (hkEnt := hkEnt) (H := H) (O := O) (hlim := Nat.le_of_ble_eq_true rfl) (m := _) (i := _) (hnd := by decide) (hL := rfl)) <|
  all_cons (kDeclP_ok (hkDeclP := hkDeclP) (hkSettle := hkSettle) (hkEq := hkEq) (hTop := hTop) (hkIeq := hkIeq) (H := H) (O := O) (hlim := Nat.le_of_ble_eq_true rfl) (m := _) (i := _) (hnd := by decide) (hL := rfl) (hf := hf.f1)) <|
  all_nil)
theorem kLa_ok (hkLa : kLa.Run F.kt) (hkSub : kSub.Run F.kt) (hkWhole : kWhole.Run F.kt) (hkNe : kNe.Run F.kt) (hkEnt : kEnt.Run F.kt) (hkDeclP : kDeclP.Run F.kt) (hkSettle : kSettle.Run F.kt) (hkEq : kEq.Run F.kt) (hTop : Tops F.kt) (hkIeq : kIeq.Run F.kt) (H : F.Ok) (O : VOk (F.vc σ τ lim us K dr os m₀ i₀)) (hlim : lim ≤ kLa.n0) (m i : Nat) {js : List Nat} (hnd : js.Nodup) (hL : js.length = kLa.L) {x : Vals} (hf : kLa_facts F.w.params (Seg.σ' σ js m) (Seg.τ' τ i) x) : UseOk (F.vc σ τ lim us K dr os m₀ i₀) (kLa.use F.w.params (F.kt F.w.params) σ τ m i js x) :=
  Seg.useOk hkLa H O hnd hL rfl (by decide) (by decide) hlim ⟨_, rfl⟩ ⟨_, rfl⟩ fun K' O' => kLa_us_ok (x := x) (hkSub := hkSub) (hkWhole := hkWhole) (hkNe := hkNe) (hkEnt := hkEnt) (hkDeclP := hkDeclP) (hkSettle := hkSettle) (hkEq := hkEq) (hTop := hTop) (hkIeq := hkIeq) (H := H) (O := O') (hf := hf)
end

/-! kLdn: 365 steps, 365 in the other world; 86 t, 2 s, 3 i, 0 b, 67 v, 0 r, 2 e, 1 a -/
noncomputable def kLdn_sc : List Nat := [0, 12, 12, 12, 12, 12, 12, 12, 12, 12, 12, 0, 12, 0, 0, 1, 12, 12, 0, 12, 0, 2, 0, 12, 0, 3, 12, 31, 31, 31, 0, 31, 32, 32, 0, 32, 32, 32, 31, 32, 32, 32, 0, 32, 32, 32, 31, 32, 32, 32, 0, 32, 32, 32, 31, 32, 32, 32, 0, 32, 32, 32, 31, 32, 32, 34, 12, 14, 0, 0, 0, 0, 14, 0, 14, 0, 14, 0, 0, 0, 14, 0, 13, 13, 13, 12, 14, 0, 0, 0, 0, 14, 0, 14, 0, 14, 0, 0, 0, 14, 0, 13, 13, 13, 12, 14, 0, 0, 0, 0, 14, 0, 14, 0, 14, 0, 0, 0, 14, 0, 13, 13, 13, 12, 4, 12, 14, 0, 0, 0, 0, 14, 0, 14, 0, 14, 0, 0, 0, 14, 0, 13, 13, 13, 0, 12, 12, 1, 0, 0, 0, 0, 1, 0, 0, 0, 1, 1, 0, 2, 12, 3, 0, 0, 0, 0, 3, 0, 0, 0, 3, 3, 0, 4, 12, 14, 0, 0, 0, 0, 14, 0, 0, 0, 14, 14, 0, 13, 12, 0, 0, 5, 12, 12, 12, 39, 0, 0, 0, 0, 39, 0, 39, 0, 39, 0, 0, 0, 39, 0, 38, 38, 38, 0, 12, 12, 0, 6, 12]
noncomputable def kLdn_ins (P : Params) (σ : Nat → Nat) (x : Vals) : List Obj := [
  inst 223 (σ 1 + 417),
  mkD P kT ([(x.t 2), (x.t 3), (x.t 4)] ++ rg x.t 6 21) ([x.v 0, x.v 1, .int (x.i 0) (x.t 5)] ++ rg x.v 2 21) 24,
  inst 223 (σ 3 + 417),
  mkD P kT ([(x.t 27), (x.t 28), (x.t 29)] ++ rg x.t 31 21) ([x.v 23, x.v 24, .int (x.i 1) (x.t 30)] ++ rg x.v 25 21) 24,
  inst 141 (σ 5 + 417),
  mkD P kR ([(x.t 52)] ++ rg x.t 54 7 ++ rg x.t 62 7) ([.str (.mk #[112, 97, 99, 107, 97, 103, 101]) (x.t 53), x.v 46, .ref (σ 7 + 417), .ref (σ 7 + 417), x.v 47, x.v 48, x.v 49, .str (x.s 1) (x.t 61), .ref (σ 6 + 417), .ref (σ 10 + 417)] ++ rg x.v 50 5) 15,
  dO (x.e 0) (x.n 0),
  inst 141 (σ 8 + 417),
  mkD P kR ([(x.t 69)] ++ rg x.t 71 4 ++ rg x.t 76 10) ([.str (.mk #[114, 111, 111, 116]) (x.t 70), x.v 55, x.v 56, x.v 57, .int (x.i 2) (x.t 75)] ++ rg x.v 58 7 ++ [.ref (σ 9 + 417), x.v 65, x.v 66]) 15,
  dO (x.e 1) (x.n 1),
  lO (x.a 0) (x.n 100)]
noncomputable def kLdn_outs (P : Params) (σ τ : Nat → Nat) (x : Vals) : List Obj := [
  inst 223 (σ 1 + 417),
  nth (kLdn_ins P σ x) 1,
  inst 223 (σ 3 + 417),
  nth (kLdn_ins P σ x) 3,
  inst 141 (σ 5 + 417),
  nth (kLdn_ins P σ x) 5,
  dO ((x.e 0).push (ent P (.mk #[x.n 200 + 102]) (x.t 0) (.ref (σ 66 + 417)))) (x.n 0 + 1),
  inst 141 (σ 8 + 417),
  mkD P kR ([(x.t 69)] ++ rg x.t 71 4 ++ rg x.t 76 10) ([.str (.mk #[114, 111, 111, 116]) (x.t 70), x.v 55, x.v 56, x.v 57, .int (x.i 2 + 1) (τ 126)] ++ rg x.v 58 7 ++ [.ref (σ 9 + 417), x.v 65, x.v 66]) 15,
  dO ((x.e 1).push (ent P (.mk #[x.n 200 + 102]) (x.t 0) (.int (1) (τ 155)))) (x.n 1 + 1),
  lO ((x.a 0).push (.ref (σ 38 + 417))) (x.n 100 + 1),
  mkD P kS [(τ 8), (τ 10), (τ 12), (τ 14), (τ 16), (τ 18), (τ 21), (τ 24), (τ 26), (τ 28), (τ 30)] [.str (.mk #[x.n 200 + 102]) (x.t 0), .ref (σ 25 + 417), .ref (σ 28 + 417), .ref (σ 16 + 417), .ref (σ 17 + 417), .ref (σ 18 + 417), .int (0) (τ 19), .str (x.s 0) (x.t 1), .ref (σ 34 + 417), .none, .none] 11,
  inst 31 (σ 12 + 417),
  lO #[] 0,
  lO #[] 0,
  lO #[] 0,
  mkD P kU [(τ 39), (τ 41)] [.ref (σ 0 + 417), .none] 2,
  inst 244 (σ 21 + 417),
  tO #[.str (.mk #[120]) (τ 32), .str (.mk #[105, 110]) (τ 33), .ref (σ 22 + 417), .none],
  lO #[.ref (σ 24 + 417)] 0,
  mkD P kU [(τ 47), (τ 49)] [.ref (σ 2 + 417), .none] 2,
  inst 244 (σ 27 + 417),
  lO #[] 0,
  tO #[.int (x.i 0) (x.t 5)],
  tO #[.ref (σ 35 + 417), .int (x.i 1) (x.t 30)],
  mkD P kE [(τ 72), (τ 74), (τ 76), (τ 78), (τ 80), (τ 82), (τ 85), (τ 88), (τ 90), (τ 93), (τ 95), (τ 97), (τ 99), (τ 101), (τ 103), (τ 105), (τ 107)] [.str (.mk #[115, 117, 98]) (τ 59), .str (.mk #[x.n 200 + 102]) (x.t 0), .ref (σ 36 + 417), .ref (σ 28 + 417), .ref (σ 13 + 417), .int (3) (τ 63), .int (x.i 2 + 1) (τ 126), .str (.mk #[x.n 200 + 102]) (x.t 0), .ref (σ 4 + 417), .str (x.s 1) (x.t 61), .none, .none, .bool true, .bool true, .bool false, .bool false, .bool false] 17,
  inst 52 (σ 37 + 417),
  lO #[.ref (σ 38 + 417)] 1]
noncomputable def kLdn_us (P : Params) (T : KT) (σ τ : Nat → Nat) (x : Vals) : List Use := [
  kSub.use P T σ τ 12 5 [] (vals [(x.t 0)] [(.mk #[x.n 200 + 102])] [] [] [] [] [] [] [] [] []),
  kWhole.use P T σ τ 20 34 [] (vals [] [] [] [] [(σ 0 + 417)] [] [] [] [] [] []),
  kWhole.use P T σ τ 26 42 [] (vals [] [] [] [] [(σ 2 + 417)] [] [] [] [] [] []),
  cmpUse "str.__ne__" 34 57 (.str (x.s 0) (x.t 1)) (.str (.mk #[]) (τ 56)) false,
  kEnt.use P T σ τ 37 64 [] (vals [(τ 59), (x.t 0), (τ 63)] [(.mk #[115, 117, 98]), (.mk #[x.n 200 + 102])] [3] [] [(σ 36 + 417), (σ 28 + 417), (σ 13 + 417)] [] [] [] [] [] []),
  kDeclP.use P T σ τ 40 111 [38, 37, 4, 5, 6, 7, 8, 9, 10] (vals ([(τ 72), (τ 59), (τ 74), (x.t 0), (τ 76), (τ 78), (τ 80), (τ 82), (τ 85), (τ 88), (τ 90), (τ 93), (τ 95), (τ 97), (τ 99), (τ 101), (τ 103), (τ 105), (τ 107)] ++ rg x.t 52 34) [x.s 1] [x.i 2] [] [] [(x.e 0), (x.e 1)] [(x.a 0)] [(x.n 0), (x.n 1)] [(x.n 100)] ([.ref (σ 36 + 417), .ref (σ 28 + 417), .ref (σ 13 + 417), .int (3) (τ 63), .int (0) (τ 83), .str (.mk #[]) (τ 86), .none, .str (.mk #[]) (τ 91), .none, .none, .bool false, .bool true, .bool false, .bool false, .bool false] ++ rg x.v 46 21) [x.n 200])]
structure kLdn_facts (P : Params) (σ τ : Nat → Nat) (x : Vals) : Prop where
  f0 : ((Str.cps (x.s 0)).toList != (Str.cps (.mk #[])).toList) = false
  f1 : kDeclP_facts P (Seg.σ' σ [38, 37, 4, 5, 6, 7, 8, 9, 10] 40) (Seg.τ' τ 111) (vals ([(τ 72), (τ 59), (τ 74), (x.t 0), (τ 76), (τ 78), (τ 80), (τ 82), (τ 85), (τ 88), (τ 90), (τ 93), (τ 95), (τ 97), (τ 99), (τ 101), (τ 103), (τ 105), (τ 107)] ++ rg x.t 52 34) [x.s 1] [x.i 2] [] [] [(x.e 0), (x.e 1)] [(x.a 0)] [(x.n 0), (x.n 1)] [(x.n 100)] ([.ref (σ 36 + 417), .ref (σ 28 + 417), .ref (σ 13 + 417), .int (3) (τ 63), .int (0) (τ 83), .str (.mk #[]) (τ 86), .none, .str (.mk #[]) (τ 91), .none, .none, .bool false, .bool true, .bool false, .bool false, .bool false] ++ rg x.v 46 21) [x.n 200])
noncomputable def kLdn : Seg := ⟨11, fun P T σ x => .code (.call (.ref 410) ⟨[.ref (σ 4 + 417), .str (.mk #[x.n 200 + 102]) (x.t 0), .ref (σ 0 + 417), .ref (σ 2 + 417), .str (x.s 0) (x.t 1)], []⟩), kLdn_ins, [0, 1, 2, 3, 4, 5, 6, 7, 8, 9, 10, 12, 13, 16, 17, 18, 21, 22, 24, 25, 27, 28, 34, 35, 36, 37, 38, 66], kLdn_outs, fun P T σ τ x => .res (.ok (.ret (.ref (σ 38 + 417)))), 57, 170, 68, 76, fun _ => 366, fun _ => kLdn_sc, kLdn_us⟩

section
variable {F : Fix} {σ τ : Nat → Nat} {lim : Nat} {us : List Use} {K : Addr → Option Obj} {dr : Drawn} {os : OsState} {m₀ i₀ : Nat}
-- DEPS kLdn [kSub, kWhole, kNe, kEnt, kDeclP, kSettle, kEq, Top, kIeq]
theorem kLdn_us_ok {x : Vals} (hkSub : kSub.Run F.kt) (hkWhole : kWhole.Run F.kt) (hkNe : kNe.Run F.kt) (hkEnt : kEnt.Run F.kt) (hkDeclP : kDeclP.Run F.kt) (hkSettle : kSettle.Run F.kt) (hkEq : kEq.Run F.kt) (hTop : Tops F.kt) (hkIeq : kIeq.Run F.kt) (H : F.Ok) (O : VOk (F.vc σ τ 76 (kLdn_us F.w.params (F.kt F.w.params) σ τ x) K dr os m₀ i₀)) (hf : kLdn_facts F.w.params σ τ x) : UsesOk (F.vc σ τ 76 (kLdn_us F.w.params (F.kt F.w.params) σ τ x) K dr os m₀ i₀) := uses_all (
  all_cons (kSub_ok (hkSub := hkSub) (H := H) (O := O) (hlim := Nat.le_of_ble_eq_true rfl) (m := _) (i := _) (hnd := by decide) (hL := rfl)) <|
  all_cons (kWhole_ok (hkWhole := hkWhole) (H := H) (O := O) (hlim := Nat.le_of_ble_eq_true rfl) (m := _) (i := _) (hnd := by decide) (hL := rfl)) <|
  all_cons (kWhole_ok (hkWhole := hkWhole) (H := H) (O := O) (hlim := Nat.le_of_ble_eq_true rfl) (m := _) (i := _) (hnd := by decide) (hL := rfl)) <|
  all_cons (cmp_use hkNe H O (Nat.le_of_ble_eq_true rfl) _ _ (vals [(x.t 1), (τ 56)] [(x.s 0), (.mk #[])] [] [] [] [] [] [] [] [] []) (Prod.ext hf.f0 rfl)) <|
  all_cons (kEnt_ok (hkEnt := hkEnt) (H := H) (O := O) (hlim := Nat.le_of_ble_eq_true rfl) (m := _) (i := _) (hnd := by decide) (hL := rfl)) <|
  all_cons (kDeclP_ok (hkDeclP := hkDeclP) (hkSettle := hkSettle) (hkEq := hkEq) (hTop := hTop) (hkIeq := hkIeq) (H := H) (O := O) (hlim := Nat.le_of_ble_eq_true rfl) (m := _) (i := _) (hnd := by decide) (hL := rfl) (hf := hf.f1)) <|
  all_nil)
theorem kLdn_ok (hkLdn : kLdn.Run F.kt) (hkSub : kSub.Run F.kt) (hkWhole : kWhole.Run F.kt) (hkNe : kNe.Run F.kt) (hkEnt : kEnt.Run F.kt) (hkDeclP : kDeclP.Run F.kt) (hkSettle : kSettle.Run F.kt) (hkEq : kEq.Run F.kt) (hTop : Tops F.kt) (hkIeq : kIeq.Run F.kt) (H : F.Ok) (O : VOk (F.vc σ τ lim us K dr os m₀ i₀)) (hlim : lim ≤ kLdn.n0) (m i : Nat) {js : List Nat} (hnd : js.Nodup) (hL : js.length = kLdn.L) {x : Vals} (hf : kLdn_facts F.w.params (Seg.σ' σ js m) (Seg.τ' τ i) x) : UseOk (F.vc σ τ lim us K dr os m₀ i₀) (kLdn.use F.w.params (F.kt F.w.params) σ τ m i js x) :=
  Seg.useOk hkLdn H O hnd hL rfl (by decide) (by decide) hlim ⟨_, rfl⟩ ⟨_, rfl⟩ fun K' O' => kLdn_us_ok (x := x) (hkSub := hkSub) (hkWhole := hkWhole) (hkNe := hkNe) (hkEnt := hkEnt) (hkDeclP := hkDeclP) (hkSettle := hkSettle) (hkEq := hkEq) (hTop := hTop) (hkIeq := hkIeq) (H := H) (O := O') (hf := hf)
end

/-! kLan: 365 steps, 365 in the other world; 61 t, 2 s, 2 i, 0 b, 44 v, 0 r, 2 e, 1 a -/
noncomputable def kLan_sc : List Nat := [0, 10, 10, 10, 10, 10, 10, 10, 10, 10, 10, 0, 10, 0, 0, 1, 10, 10, 0, 10, 0, 2, 0, 10, 0, 3, 10, 29, 29, 29, 0, 29, 30, 30, 0, 30, 30, 30, 29, 30, 30, 30, 0, 30, 30, 30, 29, 30, 30, 30, 0, 30, 30, 30, 29, 30, 30, 30, 0, 30, 30, 30, 29, 30, 30, 32, 10, 12, 0, 0, 0, 0, 12, 0, 12, 0, 12, 0, 0, 0, 12, 0, 11, 11, 11, 10, 12, 0, 0, 0, 0, 12, 0, 12, 0, 12, 0, 0, 0, 12, 0, 11, 11, 11, 10, 12, 0, 0, 0, 0, 12, 0, 12, 0, 12, 0, 0, 0, 12, 0, 11, 11, 11, 10, 4, 10, 12, 0, 0, 0, 0, 12, 0, 12, 0, 12, 0, 0, 0, 12, 0, 11, 11, 11, 0, 10, 10, 1, 0, 0, 0, 0, 1, 0, 0, 0, 1, 1, 0, 2, 10, 1, 0, 0, 0, 0, 1, 0, 0, 0, 1, 1, 0, 2, 10, 12, 0, 0, 0, 0, 12, 0, 0, 0, 12, 12, 0, 11, 10, 0, 0, 5, 10, 10, 10, 37, 0, 0, 0, 0, 37, 0, 37, 0, 37, 0, 0, 0, 37, 0, 36, 36, 36, 0, 10, 10, 0, 6, 10]
noncomputable def kLan_ins (P : Params) (σ : Nat → Nat) (x : Vals) : List Obj := [
  inst 223 (σ 1 + 417),
  mkD P kT ([(x.t 2), (x.t 3), (x.t 4)] ++ rg x.t 6 21) ([x.v 0, x.v 1, .int (x.i 0) (x.t 5)] ++ rg x.v 2 21) 24,
  inst 141 (σ 3 + 417),
  mkD P kR ([(x.t 27)] ++ rg x.t 29 7 ++ rg x.t 37 7) ([.str (.mk #[112, 97, 99, 107, 97, 103, 101]) (x.t 28), x.v 23, .ref (σ 5 + 417), .ref (σ 5 + 417), x.v 24, x.v 25, x.v 26, .str (x.s 1) (x.t 36), .ref (σ 4 + 417), .ref (σ 8 + 417)] ++ rg x.v 27 5) 15,
  dO (x.e 0) (x.n 0),
  inst 141 (σ 6 + 417),
  mkD P kR ([(x.t 44)] ++ rg x.t 46 4 ++ rg x.t 51 10) ([.str (.mk #[114, 111, 111, 116]) (x.t 45), x.v 32, x.v 33, x.v 34, .int (x.i 1) (x.t 50)] ++ rg x.v 35 7 ++ [.ref (σ 7 + 417), x.v 42, x.v 43]) 15,
  dO (x.e 1) (x.n 1),
  lO (x.a 0) (x.n 100)]
noncomputable def kLan_outs (P : Params) (σ τ : Nat → Nat) (x : Vals) : List Obj := [
  inst 223 (σ 1 + 417),
  nth (kLan_ins P σ x) 1,
  inst 141 (σ 3 + 417),
  nth (kLan_ins P σ x) 3,
  dO ((x.e 0).push (ent P (.mk #[x.n 200 + 102]) (x.t 0) (.ref (σ 64 + 417)))) (x.n 0 + 1),
  inst 141 (σ 6 + 417),
  mkD P kR ([(x.t 44)] ++ rg x.t 46 4 ++ rg x.t 51 10) ([.str (.mk #[114, 111, 111, 116]) (x.t 45), x.v 32, x.v 33, x.v 34, .int (x.i 1 + 1) (τ 126)] ++ rg x.v 35 7 ++ [.ref (σ 7 + 417), x.v 42, x.v 43]) 15,
  dO ((x.e 1).push (ent P (.mk #[x.n 200 + 102]) (x.t 0) (.int (1) (τ 155)))) (x.n 1 + 1),
  lO ((x.a 0).push (.ref (σ 36 + 417))) (x.n 100 + 1),
  mkD P kS [(τ 8), (τ 10), (τ 12), (τ 14), (τ 16), (τ 18), (τ 21), (τ 24), (τ 26), (τ 28), (τ 30)] [.str (.mk #[x.n 200 + 102]) (x.t 0), .ref (σ 23 + 417), .ref (σ 26 + 417), .ref (σ 14 + 417), .ref (σ 15 + 417), .ref (σ 16 + 417), .int (0) (τ 19), .str (x.s 0) (x.t 1), .ref (σ 32 + 417), .none, .none] 11,
  inst 31 (σ 10 + 417),
  lO #[] 0,
  lO #[] 0,
  lO #[] 0,
  mkD P kU [(τ 39), (τ 41)] [.ref (σ 0 + 417), .none] 2,
  inst 244 (σ 19 + 417),
  tO #[.str (.mk #[120]) (τ 32), .str (.mk #[105, 110]) (τ 33), .ref (σ 20 + 417), .none],
  lO #[.ref (σ 22 + 417)] 0,
  mkD P kU [(τ 47), (τ 49)] [.ref (σ 0 + 417), .none] 2,
  inst 244 (σ 25 + 417),
  lO #[] 0,
  tO #[.int (x.i 0) (x.t 5)],
  tO #[.ref (σ 33 + 417), .int (x.i 0) (x.t 5)],
  mkD P kE [(τ 72), (τ 74), (τ 76), (τ 78), (τ 80), (τ 82), (τ 85), (τ 88), (τ 90), (τ 93), (τ 95), (τ 97), (τ 99), (τ 101), (τ 103), (τ 105), (τ 107)] [.str (.mk #[115, 117, 98]) (τ 59), .str (.mk #[x.n 200 + 102]) (x.t 0), .ref (σ 34 + 417), .ref (σ 26 + 417), .ref (σ 11 + 417), .int (3) (τ 63), .int (x.i 1 + 1) (τ 126), .str (.mk #[x.n 200 + 102]) (x.t 0), .ref (σ 2 + 417), .str (x.s 1) (x.t 36), .none, .none, .bool true, .bool true, .bool false, .bool false, .bool false] 17,
  inst 52 (σ 35 + 417),
  lO #[.ref (σ 36 + 417)] 1]
noncomputable def kLan_us (P : Params) (T : KT) (σ τ : Nat → Nat) (x : Vals) : List Use := [
  kSub.use P T σ τ 10 5 [] (vals [(x.t 0)] [(.mk #[x.n 200 + 102])] [] [] [] [] [] [] [] [] []),
  kWhole.use P T σ τ 18 34 [] (vals [] [] [] [] [(σ 0 + 417)] [] [] [] [] [] []),
  kWhole.use P T σ τ 24 42 [] (vals [] [] [] [] [(σ 0 + 417)] [] [] [] [] [] []),
  cmpUse "str.__ne__" 32 57 (.str (x.s 0) (x.t 1)) (.str (.mk #[]) (τ 56)) false,
  kEnt.use P T σ τ 35 64 [] (vals [(τ 59), (x.t 0), (τ 63)] [(.mk #[115, 117, 98]), (.mk #[x.n 200 + 102])] [3] [] [(σ 34 + 417), (σ 26 + 417), (σ 11 + 417)] [] [] [] [] [] []),
  kDeclP.use P T σ τ 38 111 [36, 35, 2, 3, 4, 5, 6, 7, 8] (vals ([(τ 72), (τ 59), (τ 74), (x.t 0), (τ 76), (τ 78), (τ 80), (τ 82), (τ 85), (τ 88), (τ 90), (τ 93), (τ 95), (τ 97), (τ 99), (τ 101), (τ 103), (τ 105), (τ 107)] ++ rg x.t 27 34) [x.s 1] [x.i 1] [] [] [(x.e 0), (x.e 1)] [(x.a 0)] [(x.n 0), (x.n 1)] [(x.n 100)] ([.ref (σ 34 + 417), .ref (σ 26 + 417), .ref (σ 11 + 417), .int (3) (τ 63), .int (0) (τ 83), .str (.mk #[]) (τ 86), .none, .str (.mk #[]) (τ 91), .none, .none, .bool false, .bool true, .bool false, .bool false, .bool false] ++ rg x.v 23 21) [x.n 200])]
structure kLan_facts (P : Params) (σ τ : Nat → Nat) (x : Vals) : Prop where
  f0 : ((Str.cps (x.s 0)).toList != (Str.cps (.mk #[])).toList) = false
  f1 : kDeclP_facts P (Seg.σ' σ [36, 35, 2, 3, 4, 5, 6, 7, 8] 38) (Seg.τ' τ 111) (vals ([(τ 72), (τ 59), (τ 74), (x.t 0), (τ 76), (τ 78), (τ 80), (τ 82), (τ 85), (τ 88), (τ 90), (τ 93), (τ 95), (τ 97), (τ 99), (τ 101), (τ 103), (τ 105), (τ 107)] ++ rg x.t 27 34) [x.s 1] [x.i 1] [] [] [(x.e 0), (x.e 1)] [(x.a 0)] [(x.n 0), (x.n 1)] [(x.n 100)] ([.ref (σ 34 + 417), .ref (σ 26 + 417), .ref (σ 11 + 417), .int (3) (τ 63), .int (0) (τ 83), .str (.mk #[]) (τ 86), .none, .str (.mk #[]) (τ 91), .none, .none, .bool false, .bool true, .bool false, .bool false, .bool false] ++ rg x.v 23 21) [x.n 200])
noncomputable def kLan : Seg := ⟨9, fun P T σ x => .code (.call (.ref 410) ⟨[.ref (σ 2 + 417), .str (.mk #[x.n 200 + 102]) (x.t 0), .ref (σ 0 + 417), .ref (σ 0 + 417), .str (x.s 0) (x.t 1)], []⟩), kLan_ins, [0, 1, 2, 3, 4, 5, 6, 7, 8, 10, 11, 14, 15, 16, 19, 20, 22, 23, 25, 26, 32, 33, 34, 35, 36, 64], kLan_outs, fun P T σ τ x => .res (.ok (.ret (.ref (σ 36 + 417)))), 57, 170, 68, 76, fun _ => 366, fun _ => kLan_sc, kLan_us⟩

section
variable {F : Fix} {σ τ : Nat → Nat} {lim : Nat} {us : List Use} {K : Addr → Option Obj} {dr : Drawn} {os : OsState} {m₀ i₀ : Nat}
-- DEPS kLan [kSub, kWhole, kNe, kEnt, kDeclP, kSettle, kEq, Top, kIeq]
theorem kLan_us_ok {x : Vals} (hkSub : kSub.Run F.kt) (hkWhole : kWhole.Run F.kt) (hkNe : kNe.Run F.kt) (hkEnt : kEnt.Run F.kt) (hkDeclP : kDeclP.Run F.kt) (hkSettle : kSettle.Run F.kt) (hkEq : kEq.Run F.kt) (hTop : Tops F.kt) (hkIeq : kIeq.Run F.kt) (H : F.Ok) (O : VOk (F.vc σ τ 76 (kLan_us F.w.params (F.kt F.w.params) σ τ x) K dr os m₀ i₀)) (hf : kLan_facts F.w.params σ τ x) : UsesOk (F.vc σ τ 76 (kLan_us F.w.params (F.kt F.w.params) σ τ x) K dr os m₀ i₀) := uses_all (
  all_cons (kSub_ok (hkSub := hkSub) (H := H) (O := O) (hlim := Nat.le_of_ble_eq_true rfl) (m := _) (i := _) (hnd := by decide) (hL := rfl)) <|
  all_cons (kWhole_ok (hkWhole := hkWhole) (H := H) (O := O) (hlim := Nat.le_of_ble_eq_true rfl) (m := _) (i := _) (hnd := by decide) (hL := rfl)) <|
  all_cons (kWhole_ok (hkWhole := hkWhole) (H := H) (O := O) (hlim := Nat.le_of_ble_eq_true rfl) (m := _) (i := _) (hnd := by decide) (hL := rfl)) <|
  all_cons (cmp_use hkNe H O (Nat.le_of_ble_eq_true rfl) _ _ (vals [(x.t 1), (τ 56)] [(x.s 0), (.mk #[])] [] [] [] [] [] [] [] [] []) (Prod.ext hf.f0 rfl)) <|
  all_cons (kEnt_ok (hkEnt := hkEnt) (H := H) (O := O) (hlim := Nat.le_of_ble_eq_true rfl) (m := _) (i := _) (hnd := by decide) (hL := rfl)) <|
  all_cons (kDeclP_ok (hkDeclP := hkDeclP) (hkSettle := hkSettle) (hkEq := hkEq) (hTop := hTop) (hkIeq := hkIeq) (H := H) (O := O) (hlim := Nat.le_of_ble_eq_true rfl) (m := _) (i := _) (hnd := by decide) (hL := rfl) (hf := hf.f1)) <|
  all_nil)
theorem kLan_ok (hkLan : kLan.Run F.kt) (hkSub : kSub.Run F.kt) (hkWhole : kWhole.Run F.kt) (hkNe : kNe.Run F.kt) (hkEnt : kEnt.Run F.kt) (hkDeclP : kDeclP.Run F.kt) (hkSettle : kSettle.Run F.kt) (hkEq : kEq.Run F.kt) (hTop : Tops F.kt) (hkIeq : kIeq.Run F.kt) (H : F.Ok) (O : VOk (F.vc σ τ lim us K dr os m₀ i₀)) (hlim : lim ≤ kLan.n0) (m i : Nat) {js : List Nat} (hnd : js.Nodup) (hL : js.length = kLan.L) {x : Vals} (hf : kLan_facts F.w.params (Seg.σ' σ js m) (Seg.τ' τ i) x) : UseOk (F.vc σ τ lim us K dr os m₀ i₀) (kLan.use F.w.params (F.kt F.w.params) σ τ m i js x) :=
  Seg.useOk hkLan H O hnd hL rfl (by decide) (by decide) hlim ⟨_, rfl⟩ ⟨_, rfl⟩ fun K' O' => kLan_us_ok (x := x) (hkSub := hkSub) (hkWhole := hkWhole) (hkNe := hkNe) (hkEnt := hkEnt) (hkDeclP := hkDeclP) (hkSettle := hkSettle) (hkEq := hkEq) (hTop := hTop) (hkIeq := hkIeq) (H := H) (O := O') (hf := hf)
end

end Mine
end
section
set_option maxRecDepth 100000
set_option maxHeartbeats 0
namespace Mine
open PySem PySem.W PySem.W.X
/-! kCnt: 119 steps, 119 in the other world; 44 t, 0 s, 1 i, 0 b, 40 v, 0 r, 1 e, 0 a -/
noncomputable def kCnt_sc : List Nat := [0, 8, 8, 8, 1, 0, 0, 0, 0, 1, 0, 0, 0, 1, 1, 0, 2, 3, 0, 0, 0, 0, 3, 0, 0, 0, 3, 3, 0, 4, 0, 5, 0, 0, 0, 0, 5, 0, 0, 0, 5, 5, 0, 6, 0, 8, 8, 8, 7, 7, 7, 7, 0, 1, 0, 8, 0, 7, 7, 2, 8, 0, 7, 7, 7, 3, 0, 4]
noncomputable def kCnt_ins (P : Params) (σ : Nat → Nat) (x : Vals) : List Obj := [
  inst 331 (σ 1 + 417),
  mkD P kC (rg x.t 0 13) ([.ref (σ 2 + 417)] ++ rg x.v 0 12) 13,
  inst 141 (σ 3 + 417),
  mkD P kR (rg x.t 13 15) ([x.v 12, x.v 13, x.v 14, .ref (σ 4 + 417)] ++ rg x.v 15 11) 15,
  inst 141 (σ 5 + 417),
  mkD P kR (rg x.t 28 15) (rg x.v 26 12 ++ [.ref (σ 6 + 417), x.v 38, x.v 39]) 15,
  dO (x.e 0) (x.n 0)]
noncomputable def kCnt_outs (P : Params) (σ τ : Nat → Nat) (x : Vals) : List Obj := [
  inst 331 (σ 1 + 417),
  nth (kCnt_ins P σ x) 1,
  inst 141 (σ 3 + 417),
  nth (kCnt_ins P σ x) 3,
  inst 141 (σ 5 + 417),
  nth (kCnt_ins P σ x) 5,
  dO (setE (x.e 0) (.mk #[35, 105, 110, 104, 101, 114, 105, 116, 101, 100]) (.int (x.i 0 + 1) (τ 8))) (x.n 0)]
noncomputable def kCnt_us (P : Params) (T : KT) (σ τ : Nat → Nat) (x : Vals) : List Use := [
  dget3Use σ 8 6 6 (x.e 0) (x.n 0) (.mk #[35, 105, 110, 104, 101, 114, 105, 116, 101, 100]) 636 (.int (0) (τ 5)) (.int (x.i 0) (x.t 43)),
  doldUse σ 8 9 6 (x.e 0) (x.n 0) (.mk #[35, 105, 110, 104, 101, 114, 105, 116, 101, 100]) 636 (.int (x.i 0 + 1) (τ 8)),
  ditemUse σ 8 10 6 (setE (x.e 0) (.mk #[35, 105, 110, 104, 101, 114, 105, 116, 101, 100]) (.int (x.i 0 + 1) (τ 8))) (x.n 0) (.mk #[35, 105, 110, 104, 101, 114, 105, 116, 101, 100]) 636 (.int (x.i 0 + 1) (τ 8)),
  cmpUse "int.__gt__" 8 11 (.int (x.i 0 + 1) (τ 8)) (.int (20000) 638) false]
structure kCnt_facts (P : Params) (σ τ : Nat → Nat) (x : Vals) : Prop where
  f0 : AllStr (x.e 0)
  f1 : lookS (x.e 0) (.mk #[35, 105, 110, 104, 101, 114, 105, 116, 101, 100]) = some (.int (x.i 0) (x.t 43))
  f2 : ((x.e 0)).size ≤ 60
  f3 : (lookS (x.e 0) (.mk #[35, 105, 110, 104, 101, 114, 105, 116, 101, 100])).isSome = true
  f4 : AllStr (setE (x.e 0) (.mk #[35, 105, 110, 104, 101, 114, 105, 116, 101, 100]) (.int (x.i 0 + 1) (τ 8)))
  f5 : lookS (setE (x.e 0) (.mk #[35, 105, 110, 104, 101, 114, 105, 116, 101, 100]) (.int (x.i 0 + 1) (τ 8))) (.mk #[35, 105, 110, 104, 101, 114, 105, 116, 101, 100]) = some (.int (x.i 0 + 1) (τ 8))
  f6 : decide (((x.i 0 + 1) : Int) > (20000)) = false
noncomputable def kCnt : Seg := ⟨7, fun P T σ x => .code (.call (.ref 307) ⟨[.ref (σ 0 + 417)], []⟩), kCnt_ins, [0, 1, 2, 3, 4, 5, 6], kCnt_outs, fun P T σ τ x => .res (.ok (.ret (.none))), 1, 11, 84, 88, fun _ => 120, fun _ => kCnt_sc, kCnt_us⟩

section
variable {F : Fix} {σ τ : Nat → Nat} {lim : Nat} {us : List Use} {K : Addr → Option Obj} {dr : Drawn} {os : OsState} {m₀ i₀ : Nat}
-- DEPS kCnt [kGt]
theorem kCnt_us_ok {x : Vals} (hkGt : kGt.Run F.kt) (H : F.Ok) (O : VOk (F.vc σ τ 88 (kCnt_us F.w.params (F.kt F.w.params) σ τ x) K dr os m₀ i₀)) (hf : kCnt_facts F.w.params σ τ x) : UsesOk (F.vc σ τ 88 (kCnt_us F.w.params (F.kt F.w.params) σ τ x) K dr os m₀ i₀) := uses_all (
  all_cons (dget3_some O _ _ _ _ _ _ hf.f0 hf.f1) <|
  all_cons (dold_use O _ _ _ _ _ _ hf.f0 hf.f2 hf.f3) <|
  all_cons (ditem_use O _ _ _ _ _ hf.f4 hf.f5) <|
  all_cons (cmp_use hkGt H O (Nat.le_of_ble_eq_true rfl) _ _ (vals [(τ 8), 638] [] [(x.i 0 + 1), (20000)] [] [] [] [] [] [] [] []) (Prod.ext hf.f6 rfl)) <|
  all_nil)
theorem kCnt_ok (hkCnt : kCnt.Run F.kt) (hkGt : kGt.Run F.kt) (H : F.Ok) (O : VOk (F.vc σ τ lim us K dr os m₀ i₀)) (hlim : lim ≤ kCnt.n0) (m i : Nat) {js : List Nat} (hnd : js.Nodup) (hL : js.length = kCnt.L) {x : Vals} (hf : kCnt_facts F.w.params (Seg.σ' σ js m) (Seg.τ' τ i) x) : UseOk (F.vc σ τ lim us K dr os m₀ i₀) (kCnt.use F.w.params (F.kt F.w.params) σ τ m i js x) :=
  Seg.useOk hkCnt H O hnd hL rfl (by decide) (by decide) hlim ⟨_, rfl⟩ ⟨_, rfl⟩ fun K' O' => kCnt_us_ok (x := x) (hkGt := hkGt) (H := H) (O := O') (hf := hf)
end

/-! kChgS: 87 steps, 87 in the other world; 52 t, 0 s, 0 i, 0 b, 47 v, 1 r, 0 e, 0 a -/
noncomputable def kChgS_sc : List Nat := [0, 7, 7, 7, 7, 7, 7, 7, 7, 1, 0, 0, 0, 0, 1, 0, 0, 0, 1, 1, 0, 2, 3, 0, 0, 0, 0, 3, 0, 0, 0, 3, 3, 0, 4, 0, 7, 5, 0, 0, 0, 0, 5, 0, 0, 0, 5, 5, 0, 6, 0, 7]
noncomputable def kChgS_ins (P : Params) (σ : Nat → Nat) (x : Vals) : List Obj := [
  inst 244 (σ 1 + 417),
  mkD P kU [(x.t 0), (x.t 1)] [.ref (σ 2 + 417), x.v 0] 2,
  inst 223 (σ 3 + 417),
  mkD P kT ([(x.t 2), (x.t 3), (x.t 4)] ++ rg x.t 6 21) ([x.v 1, x.v 2, .int (61) (x.t 5)] ++ rg x.v 3 21) 24,
  inst 223 (σ 5 + 417),
  mkD P kT ([(x.t 27), (x.t 28), (x.t 29)] ++ rg x.t 31 21) ([x.v 24, x.v 25, .int (71) (x.t 30)] ++ rg x.v 26 21) 24]
noncomputable def kChgS_outs (P : Params) (σ τ : Nat → Nat) (x : Vals) : List Obj := [
  inst 244 (σ 1 + 417),
  nth (kChgS_ins P σ x) 1,
  inst 223 (σ 3 + 417),
  nth (kChgS_ins P σ x) 3,
  inst 223 (σ 5 + 417),
  nth (kChgS_ins P σ x) 5]
noncomputable def kChgS_us (P : Params) (T : KT) (σ τ : Nat → Nat) (x : Vals) : List Use := [
]
noncomputable def kChgS : Seg := ⟨6, fun P T σ x => .code (.call (.ref 290) ⟨[.ref (σ 0 + 417), .ref (x.r 0), .ref (σ 4 + 417)], []⟩), kChgS_ins, [0, 1, 2, 3, 4, 5], kChgS_outs, fun P T σ τ x => .res (.ok (.ret (.ref (σ 0 + 417)))), 1, 6, 84, 88, fun _ => 88, fun _ => kChgS_sc, kChgS_us⟩

section
variable {F : Fix} {σ τ : Nat → Nat} {lim : Nat} {us : List Use} {K : Addr → Option Obj} {dr : Drawn} {os : OsState} {m₀ i₀ : Nat}
-- DEPS kChgS []
theorem kChgS_us_ok {x : Vals} (H : F.Ok) (O : VOk (F.vc σ τ 88 (kChgS_us F.w.params (F.kt F.w.params) σ τ x) K dr os m₀ i₀)) : UsesOk (F.vc σ τ 88 (kChgS_us F.w.params (F.kt F.w.params) σ τ x) K dr os m₀ i₀) := uses_all (
  all_nil)
theorem kChgS_ok (hkChgS : kChgS.Run F.kt) (H : F.Ok) (O : VOk (F.vc σ τ lim us K dr os m₀ i₀)) (hlim : lim ≤ kChgS.n0) (m i : Nat) {js : List Nat} (hnd : js.Nodup) (hL : js.length = kChgS.L) {x : Vals} : UseOk (F.vc σ τ lim us K dr os m₀ i₀) (kChgS.use F.w.params (F.kt F.w.params) σ τ m i js x) :=
  Seg.useOk hkChgS H O hnd hL rfl (by decide) (by decide) hlim ⟨_, rfl⟩ ⟨_, rfl⟩ fun K' O' => kChgS_us_ok (x := x)  (H := H) (O := O')
end

/-! kChgT: 156 steps, 156 in the other world; 52 t, 0 s, 0 i, 0 b, 46 v, 0 r, 0 e, 0 a -/
noncomputable def kChgT_sc : List Nat := [0, 7, 7, 7, 7, 7, 7, 7, 7, 1, 0, 0, 0, 0, 1, 0, 0, 0, 1, 1, 0, 2, 3, 0, 0, 0, 0, 3, 0, 0, 0, 3, 3, 0, 4, 0, 7, 3, 0, 0, 0, 0, 3, 0, 0, 0, 3, 3, 0, 4, 0, 7, 5, 0, 0, 0, 0, 5, 0, 0, 0, 5, 5, 0, 6, 7, 3, 0, 0, 0, 0, 3, 0, 0, 0, 3, 3, 0, 4, 0, 7, 5, 0, 0, 0, 0, 5, 0, 0, 0, 5, 5, 0, 6, 0, 7, 0, 1]
noncomputable def kChgT_ins (P : Params) (σ : Nat → Nat) (x : Vals) : List Obj := [
  inst 244 (σ 1 + 417),
  mkD P kU [(x.t 0), (x.t 1)] [.ref (σ 2 + 417), x.v 0] 2,
  inst 223 (σ 3 + 417),
  mkD P kT ([(x.t 2), (x.t 3), (x.t 4)] ++ rg x.t 6 21) ([x.v 1, x.v 2, .int (71) (x.t 5)] ++ rg x.v 3 21) 24,
  inst 223 (σ 5 + 417),
  mkD P kT ([(x.t 27), (x.t 28), (x.t 29)] ++ rg x.t 31 21) ([x.v 24, x.v 25, .int (72) (x.t 30)] ++ rg x.v 26 13 ++ [.bool true] ++ rg x.v 39 7) 24]
noncomputable def kChgT_outs (P : Params) (σ τ : Nat → Nat) (x : Vals) : List Obj := [
  inst 244 (σ 1 + 417),
  nth (kChgT_ins P σ x) 1,
  inst 223 (σ 3 + 417),
  nth (kChgT_ins P σ x) 3,
  inst 223 (σ 5 + 417),
  nth (kChgT_ins P σ x) 5,
  mkD P kU [(τ 14), (τ 16)] [.ref (σ 4 + 417), .none] 2,
  inst 244 (σ 8 + 417)]
noncomputable def kChgT_us (P : Params) (T : KT) (σ τ : Nat → Nat) (x : Vals) : List Use := [
  kWhole.use P T σ τ 7 9 [] (vals [] [] [] [] [(σ 4 + 417)] [] [] [] [] [] [])]
noncomputable def kChgT : Seg := ⟨6, fun P T σ x => .code (.call (.ref 290) ⟨[.ref (σ 0 + 417), .ref (σ 4 + 417), .ref (σ 2 + 417)], []⟩), kChgT_ins, [0, 1, 2, 3, 4, 5, 8, 9], kChgT_outs, fun P T σ τ x => .res (.ok (.ret (.ref (σ 9 + 417)))), 5, 17, 76, 84, fun _ => 157, fun _ => kChgT_sc, kChgT_us⟩

section
variable {F : Fix} {σ τ : Nat → Nat} {lim : Nat} {us : List Use} {K : Addr → Option Obj} {dr : Drawn} {os : OsState} {m₀ i₀ : Nat}
-- DEPS kChgT [kWhole]
theorem kChgT_us_ok {x : Vals} (hkWhole : kWhole.Run F.kt) (H : F.Ok) (O : VOk (F.vc σ τ 84 (kChgT_us F.w.params (F.kt F.w.params) σ τ x) K dr os m₀ i₀)) : UsesOk (F.vc σ τ 84 (kChgT_us F.w.params (F.kt F.w.params) σ τ x) K dr os m₀ i₀) := uses_all (
  all_cons (kWhole_ok (hkWhole := hkWhole) (H := H) (O := O) (hlim := Nat.le_of_ble_eq_true rfl) (m := _) (i := _) (hnd := by decide) (hL := rfl)) <|
  all_nil)
theorem kChgT_ok (hkChgT : kChgT.Run F.kt) (hkWhole : kWhole.Run F.kt) (H : F.Ok) (O : VOk (F.vc σ τ lim us K dr os m₀ i₀)) (hlim : lim ≤ kChgT.n0) (m i : Nat) {js : List Nat} (hnd : js.Nodup) (hL : js.length = kChgT.L) {x : Vals} : UseOk (F.vc σ τ lim us K dr os m₀ i₀) (kChgT.use F.w.params (F.kt F.w.params) σ τ m i js x) :=
  Seg.useOk hkChgT H O hnd hL rfl (by decide) (by decide) hlim ⟨_, rfl⟩ ⟨_, rfl⟩ fun K' O' => kChgT_us_ok (x := x) (hkWhole := hkWhole) (H := H) (O := O')
end

/-! kChgU: 346 steps, 346 in the other world; 52 t, 0 s, 0 i, 0 b, 45 v, 0 r, 0 e, 0 a -/
noncomputable def kChgU_sc : List Nat := [0, 7, 7, 7, 7, 7, 7, 7, 7, 1, 0, 0, 0, 0, 1, 0, 0, 0, 1, 1, 0, 2, 3, 0, 0, 0, 0, 3, 0, 0, 0, 3, 3, 0, 4, 0, 7, 3, 0, 0, 0, 0, 3, 0, 0, 0, 3, 3, 0, 4, 0, 7, 5, 0, 0, 0, 0, 5, 0, 0, 0, 5, 5, 0, 6, 7, 3, 0, 0, 0, 0, 3, 0, 0, 0, 3, 3, 0, 4, 0, 7, 5, 0, 0, 0, 0, 5, 0, 0, 0, 5, 5, 0, 6, 0, 7, 0, 0, 0, 8, 8, 8, 1, 0, 0, 0, 0, 1, 0, 0, 0, 1, 1, 0, 2, 8, 8, 8, 0, 7, 7, 1, 0, 0, 0, 0, 1, 0, 0, 0, 1, 1, 0, 2, 0, 0, 0, 0, 0, 0, 0, 0, 0, 0, 0, 0, 0, 0, 0, 0, 0, 0, 0, 0, 0, 0, 0, 0, 0, 0, 0, 0, 0, 0, 10, 0, 10, 0, 0, 0, 0, 0, 0, 11, 11, 11, 11, 11, 11, 11, 11, 10, 0, 0, 0, 0, 10, 0, 10, 0, 10, 0, 0, 0, 10, 0, 9, 9, 9, 11, 11, 10, 0, 0, 0, 0, 10, 0, 10, 0, 10, 0, 0, 0, 10, 0, 9, 9, 9]
noncomputable def kChgU_ins (P : Params) (σ : Nat → Nat) (x : Vals) : List Obj := [
  inst 244 (σ 1 + 417),
  mkD P kU [(x.t 0), (x.t 1)] [.ref (σ 2 + 417), .none] 2,
  inst 223 (σ 3 + 417),
  mkD P kT ([(x.t 2), (x.t 3), (x.t 4)] ++ rg x.t 6 21) ([x.v 0, x.v 1, .int (71) (x.t 5)] ++ rg x.v 2 21) 24,
  inst 223 (σ 5 + 417),
  mkD P kT ([(x.t 27), (x.t 28), (x.t 29)] ++ rg x.t 31 21) ([x.v 23, x.v 24, .int (72) (x.t 30)] ++ rg x.v 25 13 ++ [.bool false] ++ rg x.v 38 7) 24]
noncomputable def kChgU_outs (P : Params) (σ τ : Nat → Nat) (x : Vals) : List Obj := [
  inst 244 (σ 1 + 417),
  nth (kChgU_ins P σ x) 1,
  inst 223 (σ 3 + 417),
  nth (kChgU_ins P σ x) 3,
  inst 223 (σ 5 + 417),
  nth (kChgU_ins P σ x) 5,
  mkD P kU [(τ 17), (τ 19)] [.ref (σ 4 + 417), .none] 2,
  inst 244 (σ 8 + 417)]
noncomputable def kChgU_us (P : Params) (T : KT) (σ τ : Nat → Nat) (x : Vals) : List Use := [
]
noncomputable def kChgU : Seg := ⟨6, fun P T σ x => .code (.call (.ref 290) ⟨[.ref (σ 0 + 417), .ref (σ 4 + 417), .ref (σ 2 + 417)], []⟩), kChgU_ins, [0, 1, 2, 3, 4, 5, 8, 9], kChgU_outs, fun P T σ τ x => .res (.ok (.ret (.ref (σ 9 + 417)))), 5, 20, 76, 84, fun _ => 347, fun _ => kChgU_sc, kChgU_us⟩

section
variable {F : Fix} {σ τ : Nat → Nat} {lim : Nat} {us : List Use} {K : Addr → Option Obj} {dr : Drawn} {os : OsState} {m₀ i₀ : Nat}
-- DEPS kChgU []
theorem kChgU_us_ok {x : Vals} (H : F.Ok) (O : VOk (F.vc σ τ 84 (kChgU_us F.w.params (F.kt F.w.params) σ τ x) K dr os m₀ i₀)) : UsesOk (F.vc σ τ 84 (kChgU_us F.w.params (F.kt F.w.params) σ τ x) K dr os m₀ i₀) := uses_all (
  all_nil)
theorem kChgU_ok (hkChgU : kChgU.Run F.kt) (H : F.Ok) (O : VOk (F.vc σ τ lim us K dr os m₀ i₀)) (hlim : lim ≤ kChgU.n0) (m i : Nat) {js : List Nat} (hnd : js.Nodup) (hL : js.length = kChgU.L) {x : Vals} : UseOk (F.vc σ τ lim us K dr os m₀ i₀) (kChgU.use F.w.params (F.kt F.w.params) σ τ m i js x) :=
  Seg.useOk hkChgU H O hnd hL rfl (by decide) (by decide) hlim ⟨_, rfl⟩ ⟨_, rfl⟩ fun K' O' => kChgU_us_ok (x := x)  (H := H) (O := O')
end

end Mine
end
section
set_option maxRecDepth 100000
set_option maxHeartbeats 0
namespace Mine
open PySem PySem.W PySem.W.X
/-! kSv2: 93 steps, 93 in the other world; 5 t, 0 s, 2 i, 0 b, 0 v, 0 r, 0 e, 1 a -/
noncomputable def kSv2_sc : List Nat := [0, 3, 3, 3, 3, 3, 1, 1, 1, 1, 3, 3, 3, 1, 1, 2, 0, 1, 1, 3, 3, 0, 0, 3, 1, 1, 1, 4, 5, 6, 3, 1, 1, 1, 7, 3, 2, 2, 2, 8, 0, 3, 0]
noncomputable def kSv2_ins (P : Params) (σ : Nat → Nat) (x : Vals) : List Obj := [
  dO #[ent P (.mk #[99, 101, 108, 108, 115]) (x.t 1) (.ref (σ 1 + 417)), ent P (.mk #[115, 112, 111, 116]) (x.t 2) (.int (x.i 0) (x.t 3))] 2,
  lO (x.a 0) (x.n 100)]
noncomputable def kSv2_outs (P : Params) (σ τ : Nat → Nat) (x : Vals) : List Obj := [
  dO #[ent P (.mk #[99, 101, 108, 108, 115]) (x.t 1) (.ref (σ 1 + 417)), ent P (.mk #[115, 112, 111, 116]) (x.t 2) (.int (x.i 0 + 1) (τ 8))] 2,
  lO (x.a 0) (x.n 100)]
noncomputable def kSv2_us (P : Params) (T : KT) (σ τ : Nat → Nat) (x : Vals) : List Use := [
  ditemUse σ 3 3 0 #[ent P (.mk #[99, 101, 108, 108, 115]) (x.t 1) (.ref (σ 1 + 417)), ent P (.mk #[115, 112, 111, 116]) (x.t 2) (.int (x.i 0) (x.t 3))] 2 (.mk #[115, 112, 111, 116]) (τ 2) (.int (x.i 0) (x.t 3)),
  ditemUse σ 3 6 0 #[ent P (.mk #[99, 101, 108, 108, 115]) (x.t 1) (.ref (σ 1 + 417)), ent P (.mk #[115, 112, 111, 116]) (x.t 2) (.int (x.i 0) (x.t 3))] 2 (.mk #[115, 112, 111, 116]) (τ 5) (.int (x.i 0) (x.t 3)),
  doldUse σ 3 9 0 #[ent P (.mk #[99, 101, 108, 108, 115]) (x.t 1) (.ref (σ 1 + 417)), ent P (.mk #[115, 112, 111, 116]) (x.t 2) (.int (x.i 0) (x.t 3))] 2 (.mk #[115, 112, 111, 116]) (τ 5) (.int (x.i 0 + 1) (τ 8)),
  ditemUse σ 3 11 0 #[ent P (.mk #[99, 101, 108, 108, 115]) (x.t 1) (.ref (σ 1 + 417)), ent P (.mk #[115, 112, 111, 116]) (x.t 2) (.int (x.i 0 + 1) (τ 8))] 2 (.mk #[99, 101, 108, 108, 115]) (τ 10) (.ref (σ 1 + 417)),
  lenUse σ τ 3 12 1 (x.a 0) (x.n 100),
  cmpUse "int.__lt__" 3 14 (.int (x.i 0) (x.t 3)) (.int (((x.a 0)).size : Int) (τ 13)) true,
  ditemUse σ 3 15 0 #[ent P (.mk #[99, 101, 108, 108, 115]) (x.t 1) (.ref (σ 1 + 417)), ent P (.mk #[115, 112, 111, 116]) (x.t 2) (.int (x.i 0 + 1) (τ 8))] 2 (.mk #[99, 101, 108, 108, 115]) (τ 14) (.ref (σ 1 + 417)),
  itemLUse σ 3 16 1 (x.a 0) (x.n 100) (x.i 0) (x.t 3) (.int (x.i 1) (x.t 4))]
structure kSv2_facts (P : Params) (σ τ : Nat → Nat) (x : Vals) : Prop where
  f0 : ((x.a 0)).size ≤ 60
  f1 : decide (((x.i 0) : Int) < ((x.a 0).size : Int)) = true
  f2 : 0 ≤ (x.i 0) ∧ (x.i 0) < (64 : Int)
  f3 : ((x.a 0))[((x.i 0) : Int).toNat]? = some (.int (x.i 1) (x.t 4))
noncomputable def kSv2 : Seg := ⟨2, fun P T σ x => .code (.call (.ref 403) ⟨[.ref (σ 0 + 417), .int (2) (x.t 0)], []⟩), kSv2_ins, [0, 1], kSv2_outs, fun P T σ τ x => .res (.ok (.ret (.int ((x.i 1).fmod 2) (τ 16)))), 1, 17, 84, 88, fun _ => 94, fun _ => kSv2_sc, kSv2_us⟩

section
variable {F : Fix} {σ τ : Nat → Nat} {lim : Nat} {us : List Use} {K : Addr → Option Obj} {dr : Drawn} {os : OsState} {m₀ i₀ : Nat}
-- DEPS kSv2 [kLt]
theorem kSv2_us_ok {x : Vals} (hkLt : kLt.Run F.kt) (H : F.Ok) (O : VOk (F.vc σ τ 88 (kSv2_us F.w.params (F.kt F.w.params) σ τ x) K dr os m₀ i₀)) (hf : kSv2_facts F.w.params σ τ x) : UsesOk (F.vc σ τ 88 (kSv2_us F.w.params (F.kt F.w.params) σ τ x) K dr os m₀ i₀) := uses_all (
  all_cons (ditem_use O _ _ _ _ _ (by unfold AllStr; kernel_rfl) (by kernel_rfl)) <|
  all_cons (ditem_use O _ _ _ _ _ (by unfold AllStr; kernel_rfl) (by kernel_rfl)) <|
  all_cons (dold_use O _ _ _ _ _ _ (by unfold AllStr; kernel_rfl) (Nat.le_of_ble_eq_true (by kernel_rfl)) (by kernel_rfl)) <|
  all_cons (ditem_use O _ _ _ _ _ (by unfold AllStr; kernel_rfl) (by kernel_rfl)) <|
  all_cons (len_use O _ _ _ hf.f0) <|
  all_cons (cmp_use hkLt H O (Nat.le_of_ble_eq_true rfl) _ _ (vals [(x.t 3), (τ 13)] [] [(x.i 0), ((x.a 0).size : Int)] [] [] [] [] [] [] [] []) (Prod.ext hf.f1 rfl)) <|
  all_cons (ditem_use O _ _ _ _ _ (by unfold AllStr; kernel_rfl) (by kernel_rfl)) <|
  all_cons (itemL_use O _ _ _ _ _ hf.f2 hf.f3) <|
  all_nil)
theorem kSv2_ok (hkSv2 : kSv2.Run F.kt) (hkLt : kLt.Run F.kt) (H : F.Ok) (O : VOk (F.vc σ τ lim us K dr os m₀ i₀)) (hlim : lim ≤ kSv2.n0) (m i : Nat) {js : List Nat} (hnd : js.Nodup) (hL : js.length = kSv2.L) {x : Vals} (hf : kSv2_facts F.w.params (Seg.σ' σ js m) (Seg.τ' τ i) x) : UseOk (F.vc σ τ lim us K dr os m₀ i₀) (kSv2.use F.w.params (F.kt F.w.params) σ τ m i js x) :=
  Seg.useOk hkSv2 H O hnd hL rfl (by decide) (by decide) hlim ⟨_, rfl⟩ ⟨_, rfl⟩ fun K' O' => kSv2_us_ok (x := x) (hkLt := hkLt) (H := H) (O := O') (hf := hf)
end

/-! kSv4: 93 steps, 93 in the other world; 5 t, 0 s, 2 i, 0 b, 0 v, 0 r, 0 e, 1 a -/
noncomputable def kSv4_sc : List Nat := [0, 3, 3, 3, 3, 3, 1, 1, 1, 1, 3, 3, 3, 1, 1, 2, 0, 1, 1, 3, 3, 0, 0, 3, 1, 1, 1, 4, 5, 6, 3, 1, 1, 1, 7, 3, 2, 2, 2, 8, 0, 3, 0]
noncomputable def kSv4_ins (P : Params) (σ : Nat → Nat) (x : Vals) : List Obj := [
  dO #[ent P (.mk #[99, 101, 108, 108, 115]) (x.t 1) (.ref (σ 1 + 417)), ent P (.mk #[115, 112, 111, 116]) (x.t 2) (.int (x.i 0) (x.t 3))] 2,
  lO (x.a 0) (x.n 100)]
noncomputable def kSv4_outs (P : Params) (σ τ : Nat → Nat) (x : Vals) : List Obj := [
  dO #[ent P (.mk #[99, 101, 108, 108, 115]) (x.t 1) (.ref (σ 1 + 417)), ent P (.mk #[115, 112, 111, 116]) (x.t 2) (.int (x.i 0 + 1) (τ 8))] 2,
  lO (x.a 0) (x.n 100)]
noncomputable def kSv4_us (P : Params) (T : KT) (σ τ : Nat → Nat) (x : Vals) : List Use := [
  ditemUse σ 3 3 0 #[ent P (.mk #[99, 101, 108, 108, 115]) (x.t 1) (.ref (σ 1 + 417)), ent P (.mk #[115, 112, 111, 116]) (x.t 2) (.int (x.i 0) (x.t 3))] 2 (.mk #[115, 112, 111, 116]) (τ 2) (.int (x.i 0) (x.t 3)),
  ditemUse σ 3 6 0 #[ent P (.mk #[99, 101, 108, 108, 115]) (x.t 1) (.ref (σ 1 + 417)), ent P (.mk #[115, 112, 111, 116]) (x.t 2) (.int (x.i 0) (x.t 3))] 2 (.mk #[115, 112, 111, 116]) (τ 5) (.int (x.i 0) (x.t 3)),
  doldUse σ 3 9 0 #[ent P (.mk #[99, 101, 108, 108, 115]) (x.t 1) (.ref (σ 1 + 417)), ent P (.mk #[115, 112, 111, 116]) (x.t 2) (.int (x.i 0) (x.t 3))] 2 (.mk #[115, 112, 111, 116]) (τ 5) (.int (x.i 0 + 1) (τ 8)),
  ditemUse σ 3 11 0 #[ent P (.mk #[99, 101, 108, 108, 115]) (x.t 1) (.ref (σ 1 + 417)), ent P (.mk #[115, 112, 111, 116]) (x.t 2) (.int (x.i 0 + 1) (τ 8))] 2 (.mk #[99, 101, 108, 108, 115]) (τ 10) (.ref (σ 1 + 417)),
  lenUse σ τ 3 12 1 (x.a 0) (x.n 100),
  cmpUse "int.__lt__" 3 14 (.int (x.i 0) (x.t 3)) (.int (((x.a 0)).size : Int) (τ 13)) true,
  ditemUse σ 3 15 0 #[ent P (.mk #[99, 101, 108, 108, 115]) (x.t 1) (.ref (σ 1 + 417)), ent P (.mk #[115, 112, 111, 116]) (x.t 2) (.int (x.i 0 + 1) (τ 8))] 2 (.mk #[99, 101, 108, 108, 115]) (τ 14) (.ref (σ 1 + 417)),
  itemLUse σ 3 16 1 (x.a 0) (x.n 100) (x.i 0) (x.t 3) (.int (x.i 1) (x.t 4))]
structure kSv4_facts (P : Params) (σ τ : Nat → Nat) (x : Vals) : Prop where
  f0 : ((x.a 0)).size ≤ 60
  f1 : decide (((x.i 0) : Int) < ((x.a 0).size : Int)) = true
  f2 : 0 ≤ (x.i 0) ∧ (x.i 0) < (64 : Int)
  f3 : ((x.a 0))[((x.i 0) : Int).toNat]? = some (.int (x.i 1) (x.t 4))
noncomputable def kSv4 : Seg := ⟨2, fun P T σ x => .code (.call (.ref 403) ⟨[.ref (σ 0 + 417), .int (4) (x.t 0)], []⟩), kSv4_ins, [0, 1], kSv4_outs, fun P T σ τ x => .res (.ok (.ret (.int ((x.i 1).fmod 4) (τ 16)))), 1, 17, 84, 88, fun _ => 94, fun _ => kSv4_sc, kSv4_us⟩

section
variable {F : Fix} {σ τ : Nat → Nat} {lim : Nat} {us : List Use} {K : Addr → Option Obj} {dr : Drawn} {os : OsState} {m₀ i₀ : Nat}
-- DEPS kSv4 [kLt]
theorem kSv4_us_ok {x : Vals} (hkLt : kLt.Run F.kt) (H : F.Ok) (O : VOk (F.vc σ τ 88 (kSv4_us F.w.params (F.kt F.w.params) σ τ x) K dr os m₀ i₀)) (hf : kSv4_facts F.w.params σ τ x) : UsesOk (F.vc σ τ 88 (kSv4_us F.w.params (F.kt F.w.params) σ τ x) K dr os m₀ i₀) := uses_all (
  all_cons (ditem_use O _ _ _ _ _ (by unfold AllStr; kernel_rfl) (by kernel_rfl)) <|
  all_cons (ditem_use O _ _ _ _ _ (by unfold AllStr; kernel_rfl) (by kernel_rfl)) <|
  all_cons (dold_use O _ _ _ _ _ _ (by unfold AllStr; kernel_rfl) (Nat.le_of_ble_eq_true (by kernel_rfl)) (by kernel_rfl)) <|
  all_cons (ditem_use O _ _ _ _ _ (by unfold AllStr; kernel_rfl) (by kernel_rfl)) <|
  all_cons (len_use O _ _ _ hf.f0) <|
  all_cons (cmp_use hkLt H O (Nat.le_of_ble_eq_true rfl) _ _ (vals [(x.t 3), (τ 13)] [] [(x.i 0), ((x.a 0).size : Int)] [] [] [] [] [] [] [] []) (Prod.ext hf.f1 rfl)) <|
  all_cons (ditem_use O _ _ _ _ _ (by unfold AllStr; kernel_rfl) (by kernel_rfl)) <|
  all_cons (itemL_use O _ _ _ _ _ hf.f2 hf.f3) <|
  all_nil)
theorem kSv4_ok (hkSv4 : kSv4.Run F.kt) (hkLt : kLt.Run F.kt) (H : F.Ok) (O : VOk (F.vc σ τ lim us K dr os m₀ i₀)) (hlim : lim ≤ kSv4.n0) (m i : Nat) {js : List Nat} (hnd : js.Nodup) (hL : js.length = kSv4.L) {x : Vals} (hf : kSv4_facts F.w.params (Seg.σ' σ js m) (Seg.τ' τ i) x) : UseOk (F.vc σ τ lim us K dr os m₀ i₀) (kSv4.use F.w.params (F.kt F.w.params) σ τ m i js x) :=
  Seg.useOk hkSv4 H O hnd hL rfl (by decide) (by decide) hlim ⟨_, rfl⟩ ⟨_, rfl⟩ fun K' O' => kSv4_us_ok (x := x) (hkLt := hkLt) (H := H) (O := O') (hf := hf)
end

/-! kSv3: 93 steps, 93 in the other world; 5 t, 0 s, 2 i, 0 b, 0 v, 0 r, 0 e, 1 a -/
noncomputable def kSv3_sc : List Nat := [0, 3, 3, 3, 3, 3, 1, 1, 1, 1, 3, 3, 3, 1, 1, 2, 0, 1, 1, 3, 3, 0, 0, 3, 1, 1, 1, 4, 5, 6, 3, 1, 1, 1, 7, 3, 2, 2, 2, 8, 0, 3, 0]
noncomputable def kSv3_ins (P : Params) (σ : Nat → Nat) (x : Vals) : List Obj := [
  dO #[ent P (.mk #[99, 101, 108, 108, 115]) (x.t 1) (.ref (σ 1 + 417)), ent P (.mk #[115, 112, 111, 116]) (x.t 2) (.int (x.i 0) (x.t 3))] 2,
  lO (x.a 0) (x.n 100)]
noncomputable def kSv3_outs (P : Params) (σ τ : Nat → Nat) (x : Vals) : List Obj := [
  dO #[ent P (.mk #[99, 101, 108, 108, 115]) (x.t 1) (.ref (σ 1 + 417)), ent P (.mk #[115, 112, 111, 116]) (x.t 2) (.int (x.i 0 + 1) (τ 8))] 2,
  lO (x.a 0) (x.n 100)]
noncomputable def kSv3_us (P : Params) (T : KT) (σ τ : Nat → Nat) (x : Vals) : List Use := [
  ditemUse σ 3 3 0 #[ent P (.mk #[99, 101, 108, 108, 115]) (x.t 1) (.ref (σ 1 + 417)), ent P (.mk #[115, 112, 111, 116]) (x.t 2) (.int (x.i 0) (x.t 3))] 2 (.mk #[115, 112, 111, 116]) (τ 2) (.int (x.i 0) (x.t 3)),
  ditemUse σ 3 6 0 #[ent P (.mk #[99, 101, 108, 108, 115]) (x.t 1) (.ref (σ 1 + 417)), ent P (.mk #[115, 112, 111, 116]) (x.t 2) (.int (x.i 0) (x.t 3))] 2 (.mk #[115, 112, 111, 116]) (τ 5) (.int (x.i 0) (x.t 3)),
  doldUse σ 3 9 0 #[ent P (.mk #[99, 101, 108, 108, 115]) (x.t 1) (.ref (σ 1 + 417)), ent P (.mk #[115, 112, 111, 116]) (x.t 2) (.int (x.i 0) (x.t 3))] 2 (.mk #[115, 112, 111, 116]) (τ 5) (.int (x.i 0 + 1) (τ 8)),
  ditemUse σ 3 11 0 #[ent P (.mk #[99, 101, 108, 108, 115]) (x.t 1) (.ref (σ 1 + 417)), ent P (.mk #[115, 112, 111, 116]) (x.t 2) (.int (x.i 0 + 1) (τ 8))] 2 (.mk #[99, 101, 108, 108, 115]) (τ 10) (.ref (σ 1 + 417)),
  lenUse σ τ 3 12 1 (x.a 0) (x.n 100),
  cmpUse "int.__lt__" 3 14 (.int (x.i 0) (x.t 3)) (.int (((x.a 0)).size : Int) (τ 13)) true,
  ditemUse σ 3 15 0 #[ent P (.mk #[99, 101, 108, 108, 115]) (x.t 1) (.ref (σ 1 + 417)), ent P (.mk #[115, 112, 111, 116]) (x.t 2) (.int (x.i 0 + 1) (τ 8))] 2 (.mk #[99, 101, 108, 108, 115]) (τ 14) (.ref (σ 1 + 417)),
  itemLUse σ 3 16 1 (x.a 0) (x.n 100) (x.i 0) (x.t 3) (.int (x.i 1) (x.t 4))]
structure kSv3_facts (P : Params) (σ τ : Nat → Nat) (x : Vals) : Prop where
  f0 : ((x.a 0)).size ≤ 60
  f1 : decide (((x.i 0) : Int) < ((x.a 0).size : Int)) = true
  f2 : 0 ≤ (x.i 0) ∧ (x.i 0) < (64 : Int)
  f3 : ((x.a 0))[((x.i 0) : Int).toNat]? = some (.int (x.i 1) (x.t 4))
noncomputable def kSv3 : Seg := ⟨2, fun P T σ x => .code (.call (.ref 403) ⟨[.ref (σ 0 + 417), .int (3) (x.t 0)], []⟩), kSv3_ins, [0, 1], kSv3_outs, fun P T σ τ x => .res (.ok (.ret (.int ((x.i 1).fmod 3) (τ 16)))), 1, 17, 84, 88, fun _ => 94, fun _ => kSv3_sc, kSv3_us⟩

section
variable {F : Fix} {σ τ : Nat → Nat} {lim : Nat} {us : List Use} {K : Addr → Option Obj} {dr : Drawn} {os : OsState} {m₀ i₀ : Nat}
-- DEPS kSv3 [kLt]
theorem kSv3_us_ok {x : Vals} (hkLt : kLt.Run F.kt) (H : F.Ok) (O : VOk (F.vc σ τ 88 (kSv3_us F.w.params (F.kt F.w.params) σ τ x) K dr os m₀ i₀)) (hf : kSv3_facts F.w.params σ τ x) : UsesOk (F.vc σ τ 88 (kSv3_us F.w.params (F.kt F.w.params) σ τ x) K dr os m₀ i₀) := uses_all (
  all_cons (ditem_use O _ _ _ _ _ (by unfold AllStr; kernel_rfl) (by kernel_rfl)) <|
  all_cons (ditem_use O _ _ _ _ _ (by unfold AllStr; kernel_rfl) (by kernel_rfl)) <|
  all_cons (dold_use O _ _ _ _ _ _ (by unfold AllStr; kernel_rfl) (Nat.le_of_ble_eq_true (by kernel_rfl)) (by kernel_rfl)) <|
  all_cons (ditem_use O _ _ _ _ _ (by unfold AllStr; kernel_rfl) (by kernel_rfl)) <|
  all_cons (len_use O _ _ _ hf.f0) <|
  all_cons (cmp_use hkLt H O (Nat.le_of_ble_eq_true rfl) _ _ (vals [(x.t 3), (τ 13)] [] [(x.i 0), ((x.a 0).size : Int)] [] [] [] [] [] [] [] []) (Prod.ext hf.f1 rfl)) <|
  all_cons (ditem_use O _ _ _ _ _ (by unfold AllStr; kernel_rfl) (by kernel_rfl)) <|
  all_cons (itemL_use O _ _ _ _ _ hf.f2 hf.f3) <|
  all_nil)
theorem kSv3_ok (hkSv3 : kSv3.Run F.kt) (hkLt : kLt.Run F.kt) (H : F.Ok) (O : VOk (F.vc σ τ lim us K dr os m₀ i₀)) (hlim : lim ≤ kSv3.n0) (m i : Nat) {js : List Nat} (hnd : js.Nodup) (hL : js.length = kSv3.L) {x : Vals} (hf : kSv3_facts F.w.params (Seg.σ' σ js m) (Seg.τ' τ i) x) : UseOk (F.vc σ τ lim us K dr os m₀ i₀) (kSv3.use F.w.params (F.kt F.w.params) σ τ m i js x) :=
  Seg.useOk hkSv3 H O hnd hL rfl (by decide) (by decide) hlim ⟨_, rfl⟩ ⟨_, rfl⟩ fun K' O' => kSv3_us_ok (x := x) (hkLt := hkLt) (H := H) (O := O') (hf := hf)
end

/-! kSn0x2: 113 steps, 113 in the other world; 4 t, 0 s, 0 i, 0 b, 0 v, 0 r, 0 e, 1 a -/
noncomputable def kSn0x2_sc : List Nat := [0, 3, 3, 3, 3, 3, 1, 1, 1, 1, 3, 3, 3, 1, 1, 2, 0, 1, 1, 3, 3, 0, 0, 3, 1, 1, 1, 4, 5, 6, 3, 0, 0, 0, 0, 0, 0, 0, 0, 7, 0, 3, 0, 0, 0, 0, 0, 0, 3, 0]
noncomputable def kSn0x2_ins (P : Params) (σ : Nat → Nat) (x : Vals) : List Obj := [
  dO #[ent P (.mk #[99, 101, 108, 108, 115]) (x.t 1) (.ref (σ 1 + 417)), ent P (.mk #[115, 112, 111, 116]) (x.t 2) (.int (0) (x.t 3))] 2,
  lO (x.a 0) (x.n 100)]
noncomputable def kSn0x2_outs (P : Params) (σ τ : Nat → Nat) (x : Vals) : List Obj := [
  dO #[ent P (.mk #[99, 101, 108, 108, 115]) (x.t 1) (.ref (σ 1 + 417)), ent P (.mk #[115, 112, 111, 116]) (x.t 2) (.int (1) (τ 8))] 2,
  lO (x.a 0) (x.n 100)]
noncomputable def kSn0x2_us (P : Params) (T : KT) (σ τ : Nat → Nat) (x : Vals) : List Use := [
  ditemUse σ 3 3 0 #[ent P (.mk #[99, 101, 108, 108, 115]) (x.t 1) (.ref (σ 1 + 417)), ent P (.mk #[115, 112, 111, 116]) (x.t 2) (.int (0) (x.t 3))] 2 (.mk #[115, 112, 111, 116]) (τ 2) (.int (0) (x.t 3)),
  ditemUse σ 3 6 0 #[ent P (.mk #[99, 101, 108, 108, 115]) (x.t 1) (.ref (σ 1 + 417)), ent P (.mk #[115, 112, 111, 116]) (x.t 2) (.int (0) (x.t 3))] 2 (.mk #[115, 112, 111, 116]) (τ 5) (.int (0) (x.t 3)),
  doldUse σ 3 9 0 #[ent P (.mk #[99, 101, 108, 108, 115]) (x.t 1) (.ref (σ 1 + 417)), ent P (.mk #[115, 112, 111, 116]) (x.t 2) (.int (0) (x.t 3))] 2 (.mk #[115, 112, 111, 116]) (τ 5) (.int (1) (τ 8)),
  ditemUse σ 3 11 0 #[ent P (.mk #[99, 101, 108, 108, 115]) (x.t 1) (.ref (σ 1 + 417)), ent P (.mk #[115, 112, 111, 116]) (x.t 2) (.int (1) (τ 8))] 2 (.mk #[99, 101, 108, 108, 115]) (τ 10) (.ref (σ 1 + 417)),
  lenUse σ τ 3 12 1 (x.a 0) (x.n 100),
  cmpUse "int.__lt__" 3 14 (.int (0) (x.t 3)) (.int (((x.a 0)).size : Int) (τ 13)) false,
  cmpUse "int.__lt__" 3 16 (.int (0) (x.t 3)) (.int (6) (τ 15)) true]
structure kSn0x2_facts (P : Params) (σ τ : Nat → Nat) (x : Vals) : Prop where
  f0 : ((x.a 0)).size ≤ 60
  f1 : decide (((0) : Int) < ((x.a 0).size : Int)) = false
noncomputable def kSn0x2 : Seg := ⟨2, fun P T σ x => .code (.call (.ref 403) ⟨[.ref (σ 0 + 417), .int (2) (x.t 0)], []⟩), kSn0x2_ins, [0, 1], kSn0x2_outs, fun P T σ τ x => .res (.ok (.ret (.int (1) (τ 16)))), 1, 17, 84, 88, fun _ => 114, fun _ => kSn0x2_sc, kSn0x2_us⟩

section
variable {F : Fix} {σ τ : Nat → Nat} {lim : Nat} {us : List Use} {K : Addr → Option Obj} {dr : Drawn} {os : OsState} {m₀ i₀ : Nat}
-- DEPS kSn0x2 [kLt]
theorem kSn0x2_us_ok {x : Vals} (hkLt : kLt.Run F.kt) (H : F.Ok) (O : VOk (F.vc σ τ 88 (kSn0x2_us F.w.params (F.kt F.w.params) σ τ x) K dr os m₀ i₀)) (hf : kSn0x2_facts F.w.params σ τ x) : UsesOk (F.vc σ τ 88 (kSn0x2_us F.w.params (F.kt F.w.params) σ τ x) K dr os m₀ i₀) := uses_all (
  all_cons (ditem_use O _ _ _ _ _ (by unfold AllStr; kernel_rfl) (by kernel_rfl)) <|
  all_cons (ditem_use O _ _ _ _ _ (by unfold AllStr; kernel_rfl) (by kernel_rfl)) <|
  all_cons (dold_use O _ _ _ _ _ _ (by unfold AllStr; kernel_rfl) (Nat.le_of_ble_eq_true (by kernel_rfl)) (by kernel_rfl)) <|
  all_cons (ditem_use O _ _ _ _ _ (by unfold AllStr; kernel_rfl) (by kernel_rfl)) <|
  all_cons (len_use O _ _ _ hf.f0) <|
  all_cons (cmp_use hkLt H O (Nat.le_of_ble_eq_true rfl) _ _ (vals [(x.t 3), (τ 13)] [] [(0), ((x.a 0).size : Int)] [] [] [] [] [] [] [] []) (Prod.ext hf.f1 rfl)) <|
  all_cons (cmp_use hkLt H O (Nat.le_of_ble_eq_true rfl) _ _ (vals [(x.t 3), (τ 15)] [] [(0), (6)] [] [] [] [] [] [] [] []) (Prod.ext (by kernel_rfl) rfl)) <|
  all_nil)
theorem kSn0x2_ok (hkSn0x2 : kSn0x2.Run F.kt) (hkLt : kLt.Run F.kt) (H : F.Ok) (O : VOk (F.vc σ τ lim us K dr os m₀ i₀)) (hlim : lim ≤ kSn0x2.n0) (m i : Nat) {js : List Nat} (hnd : js.Nodup) (hL : js.length = kSn0x2.L) {x : Vals} (hf : kSn0x2_facts F.w.params (Seg.σ' σ js m) (Seg.τ' τ i) x) : UseOk (F.vc σ τ lim us K dr os m₀ i₀) (kSn0x2.use F.w.params (F.kt F.w.params) σ τ m i js x) :=
  Seg.useOk hkSn0x2 H O hnd hL rfl (by decide) (by decide) hlim ⟨_, rfl⟩ ⟨_, rfl⟩ fun K' O' => kSn0x2_us_ok (x := x) (hkLt := hkLt) (H := H) (O := O') (hf := hf)
end

/-! kSn1x4: 113 steps, 113 in the other world; 4 t, 0 s, 0 i, 0 b, 0 v, 0 r, 0 e, 1 a -/
noncomputable def kSn1x4_sc : List Nat := [0, 3, 3, 3, 3, 3, 1, 1, 1, 1, 3, 3, 3, 1, 1, 2, 0, 1, 1, 3, 3, 0, 0, 3, 1, 1, 1, 4, 5, 6, 3, 0, 0, 0, 0, 0, 0, 0, 0, 7, 0, 3, 0, 0, 0, 0, 0, 0, 3, 0]
noncomputable def kSn1x4_ins (P : Params) (σ : Nat → Nat) (x : Vals) : List Obj := [
  dO #[ent P (.mk #[99, 101, 108, 108, 115]) (x.t 1) (.ref (σ 1 + 417)), ent P (.mk #[115, 112, 111, 116]) (x.t 2) (.int (1) (x.t 3))] 2,
  lO (x.a 0) (x.n 100)]
noncomputable def kSn1x4_outs (P : Params) (σ τ : Nat → Nat) (x : Vals) : List Obj := [
  dO #[ent P (.mk #[99, 101, 108, 108, 115]) (x.t 1) (.ref (σ 1 + 417)), ent P (.mk #[115, 112, 111, 116]) (x.t 2) (.int (2) (τ 8))] 2,
  lO (x.a 0) (x.n 100)]
noncomputable def kSn1x4_us (P : Params) (T : KT) (σ τ : Nat → Nat) (x : Vals) : List Use := [
  ditemUse σ 3 3 0 #[ent P (.mk #[99, 101, 108, 108, 115]) (x.t 1) (.ref (σ 1 + 417)), ent P (.mk #[115, 112, 111, 116]) (x.t 2) (.int (1) (x.t 3))] 2 (.mk #[115, 112, 111, 116]) (τ 2) (.int (1) (x.t 3)),
  ditemUse σ 3 6 0 #[ent P (.mk #[99, 101, 108, 108, 115]) (x.t 1) (.ref (σ 1 + 417)), ent P (.mk #[115, 112, 111, 116]) (x.t 2) (.int (1) (x.t 3))] 2 (.mk #[115, 112, 111, 116]) (τ 5) (.int (1) (x.t 3)),
  doldUse σ 3 9 0 #[ent P (.mk #[99, 101, 108, 108, 115]) (x.t 1) (.ref (σ 1 + 417)), ent P (.mk #[115, 112, 111, 116]) (x.t 2) (.int (1) (x.t 3))] 2 (.mk #[115, 112, 111, 116]) (τ 5) (.int (2) (τ 8)),
  ditemUse σ 3 11 0 #[ent P (.mk #[99, 101, 108, 108, 115]) (x.t 1) (.ref (σ 1 + 417)), ent P (.mk #[115, 112, 111, 116]) (x.t 2) (.int (2) (τ 8))] 2 (.mk #[99, 101, 108, 108, 115]) (τ 10) (.ref (σ 1 + 417)),
  lenUse σ τ 3 12 1 (x.a 0) (x.n 100),
  cmpUse "int.__lt__" 3 14 (.int (1) (x.t 3)) (.int (((x.a 0)).size : Int) (τ 13)) false,
  cmpUse "int.__lt__" 3 16 (.int (1) (x.t 3)) (.int (6) (τ 15)) true]
structure kSn1x4_facts (P : Params) (σ τ : Nat → Nat) (x : Vals) : Prop where
  f0 : ((x.a 0)).size ≤ 60
  f1 : decide (((1) : Int) < ((x.a 0).size : Int)) = false
noncomputable def kSn1x4 : Seg := ⟨2, fun P T σ x => .code (.call (.ref 403) ⟨[.ref (σ 0 + 417), .int (4) (x.t 0)], []⟩), kSn1x4_ins, [0, 1], kSn1x4_outs, fun P T σ τ x => .res (.ok (.ret (.int (0) (τ 16)))), 1, 17, 84, 88, fun _ => 114, fun _ => kSn1x4_sc, kSn1x4_us⟩

section
variable {F : Fix} {σ τ : Nat → Nat} {lim : Nat} {us : List Use} {K : Addr → Option Obj} {dr : Drawn} {os : OsState} {m₀ i₀ : Nat}
-- DEPS kSn1x4 [kLt]
theorem kSn1x4_us_ok {x : Vals} (hkLt : kLt.Run F.kt) (H : F.Ok) (O : VOk (F.vc σ τ 88 (kSn1x4_us F.w.params (F.kt F.w.params) σ τ x) K dr os m₀ i₀)) (hf : kSn1x4_facts F.w.params σ τ x) : UsesOk (F.vc σ τ 88 (kSn1x4_us F.w.params (F.kt F.w.params) σ τ x) K dr os m₀ i₀) := uses_all (
  all_cons (ditem_use O _ _ _ _ _ (by unfold AllStr; kernel_rfl) (by kernel_rfl)) <|
  all_cons (ditem_use O _ _ _ _ _ (by unfold AllStr; kernel_rfl) (by kernel_rfl)) <|
  all_cons (dold_use O _ _ _ _ _ _ (by unfold AllStr; kernel_rfl) (Nat.le_of_ble_eq_true (by kernel_rfl)) (by kernel_rfl)) <|
  all_cons (ditem_use O _ _ _ _ _ (by unfold AllStr; kernel_rfl) (by kernel_rfl)) <|
  all_cons (len_use O _ _ _ hf.f0) <|
  all_cons (cmp_use hkLt H O (Nat.le_of_ble_eq_true rfl) _ _ (vals [(x.t 3), (τ 13)] [] [(1), ((x.a 0).size : Int)] [] [] [] [] [] [] [] []) (Prod.ext hf.f1 rfl)) <|
  all_cons (cmp_use hkLt H O (Nat.le_of_ble_eq_true rfl) _ _ (vals [(x.t 3), (τ 15)] [] [(1), (6)] [] [] [] [] [] [] [] []) (Prod.ext (by kernel_rfl) rfl)) <|
  all_nil)
theorem kSn1x4_ok (hkSn1x4 : kSn1x4.Run F.kt) (hkLt : kLt.Run F.kt) (H : F.Ok) (O : VOk (F.vc σ τ lim us K dr os m₀ i₀)) (hlim : lim ≤ kSn1x4.n0) (m i : Nat) {js : List Nat} (hnd : js.Nodup) (hL : js.length = kSn1x4.L) {x : Vals} (hf : kSn1x4_facts F.w.params (Seg.σ' σ js m) (Seg.τ' τ i) x) : UseOk (F.vc σ τ lim us K dr os m₀ i₀) (kSn1x4.use F.w.params (F.kt F.w.params) σ τ m i js x) :=
  Seg.useOk hkSn1x4 H O hnd hL rfl (by decide) (by decide) hlim ⟨_, rfl⟩ ⟨_, rfl⟩ fun K' O' => kSn1x4_us_ok (x := x) (hkLt := hkLt) (H := H) (O := O') (hf := hf)
end

/-! kSn2x2: 113 steps, 113 in the other world; 4 t, 0 s, 0 i, 0 b, 0 v, 0 r, 0 e, 1 a -/
noncomputable def kSn2x2_sc : List Nat := [0, 3, 3, 3, 3, 3, 1, 1, 1, 1, 3, 3, 3, 1, 1, 2, 0, 1, 1, 3, 3, 0, 0, 3, 1, 1, 1, 4, 5, 6, 3, 0, 0, 0, 0, 0, 0, 0, 0, 7, 0, 3, 0, 0, 0, 0, 0, 0, 3, 0]
noncomputable def kSn2x2_ins (P : Params) (σ : Nat → Nat) (x : Vals) : List Obj := [
  dO #[ent P (.mk #[99, 101, 108, 108, 115]) (x.t 1) (.ref (σ 1 + 417)), ent P (.mk #[115, 112, 111, 116]) (x.t 2) (.int (2) (x.t 3))] 2,
  lO (x.a 0) (x.n 100)]
noncomputable def kSn2x2_outs (P : Params) (σ τ : Nat → Nat) (x : Vals) : List Obj := [
  dO #[ent P (.mk #[99, 101, 108, 108, 115]) (x.t 1) (.ref (σ 1 + 417)), ent P (.mk #[115, 112, 111, 116]) (x.t 2) (.int (3) (τ 8))] 2,
  lO (x.a 0) (x.n 100)]
noncomputable def kSn2x2_us (P : Params) (T : KT) (σ τ : Nat → Nat) (x : Vals) : List Use := [
  ditemUse σ 3 3 0 #[ent P (.mk #[99, 101, 108, 108, 115]) (x.t 1) (.ref (σ 1 + 417)), ent P (.mk #[115, 112, 111, 116]) (x.t 2) (.int (2) (x.t 3))] 2 (.mk #[115, 112, 111, 116]) (τ 2) (.int (2) (x.t 3)),
  ditemUse σ 3 6 0 #[ent P (.mk #[99, 101, 108, 108, 115]) (x.t 1) (.ref (σ 1 + 417)), ent P (.mk #[115, 112, 111, 116]) (x.t 2) (.int (2) (x.t 3))] 2 (.mk #[115, 112, 111, 116]) (τ 5) (.int (2) (x.t 3)),
  doldUse σ 3 9 0 #[ent P (.mk #[99, 101, 108, 108, 115]) (x.t 1) (.ref (σ 1 + 417)), ent P (.mk #[115, 112, 111, 116]) (x.t 2) (.int (2) (x.t 3))] 2 (.mk #[115, 112, 111, 116]) (τ 5) (.int (3) (τ 8)),
  ditemUse σ 3 11 0 #[ent P (.mk #[99, 101, 108, 108, 115]) (x.t 1) (.ref (σ 1 + 417)), ent P (.mk #[115, 112, 111, 116]) (x.t 2) (.int (3) (τ 8))] 2 (.mk #[99, 101, 108, 108, 115]) (τ 10) (.ref (σ 1 + 417)),
  lenUse σ τ 3 12 1 (x.a 0) (x.n 100),
  cmpUse "int.__lt__" 3 14 (.int (2) (x.t 3)) (.int (((x.a 0)).size : Int) (τ 13)) false,
  cmpUse "int.__lt__" 3 16 (.int (2) (x.t 3)) (.int (6) (τ 15)) true]
structure kSn2x2_facts (P : Params) (σ τ : Nat → Nat) (x : Vals) : Prop where
  f0 : ((x.a 0)).size ≤ 60
  f1 : decide (((2) : Int) < ((x.a 0).size : Int)) = false
noncomputable def kSn2x2 : Seg := ⟨2, fun P T σ x => .code (.call (.ref 403) ⟨[.ref (σ 0 + 417), .int (2) (x.t 0)], []⟩), kSn2x2_ins, [0, 1], kSn2x2_outs, fun P T σ τ x => .res (.ok (.ret (.int (0) (τ 16)))), 1, 17, 84, 88, fun _ => 114, fun _ => kSn2x2_sc, kSn2x2_us⟩

section
variable {F : Fix} {σ τ : Nat → Nat} {lim : Nat} {us : List Use} {K : Addr → Option Obj} {dr : Drawn} {os : OsState} {m₀ i₀ : Nat}
-- DEPS kSn2x2 [kLt]
theorem kSn2x2_us_ok {x : Vals} (hkLt : kLt.Run F.kt) (H : F.Ok) (O : VOk (F.vc σ τ 88 (kSn2x2_us F.w.params (F.kt F.w.params) σ τ x) K dr os m₀ i₀)) (hf : kSn2x2_facts F.w.params σ τ x) : UsesOk (F.vc σ τ 88 (kSn2x2_us F.w.params (F.kt F.w.params) σ τ x) K dr os m₀ i₀) := uses_all (
  all_cons (ditem_use O _ _ _ _ _ (by unfold AllStr; kernel_rfl) (by kernel_rfl)) <|
  all_cons (ditem_use O _ _ _ _ _ (by unfold AllStr; kernel_rfl) (by kernel_rfl)) <|
  all_cons (dold_use O _ _ _ _ _ _ (by unfold AllStr; kernel_rfl) (Nat.le_of_ble_eq_true (by kernel_rfl)) (by kernel_rfl)) <|
  all_cons (ditem_use O _ _ _ _ _ (by unfold AllStr; kernel_rfl) (by kernel_rfl)) <|
  all_cons (len_use O _ _ _ hf.f0) <|
  all_cons (cmp_use hkLt H O (Nat.le_of_ble_eq_true rfl) _ _ (vals [(x.t 3), (τ 13)] [] [(2), ((x.a 0).size : Int)] [] [] [] [] [] [] [] []) (Prod.ext hf.f1 rfl)) <|
  all_cons (cmp_use hkLt H O (Nat.le_of_ble_eq_true rfl) _ _ (vals [(x.t 3), (τ 15)] [] [(2), (6)] [] [] [] [] [] [] [] []) (Prod.ext (by kernel_rfl) rfl)) <|
  all_nil)
theorem kSn2x2_ok (hkSn2x2 : kSn2x2.Run F.kt) (hkLt : kLt.Run F.kt) (H : F.Ok) (O : VOk (F.vc σ τ lim us K dr os m₀ i₀)) (hlim : lim ≤ kSn2x2.n0) (m i : Nat) {js : List Nat} (hnd : js.Nodup) (hL : js.length = kSn2x2.L) {x : Vals} (hf : kSn2x2_facts F.w.params (Seg.σ' σ js m) (Seg.τ' τ i) x) : UseOk (F.vc σ τ lim us K dr os m₀ i₀) (kSn2x2.use F.w.params (F.kt F.w.params) σ τ m i js x) :=
  Seg.useOk hkSn2x2 H O hnd hL rfl (by decide) (by decide) hlim ⟨_, rfl⟩ ⟨_, rfl⟩ fun K' O' => kSn2x2_us_ok (x := x) (hkLt := hkLt) (H := H) (O := O') (hf := hf)
end

/-! kSn3x2: 113 steps, 113 in the other world; 4 t, 0 s, 0 i, 0 b, 0 v, 0 r, 0 e, 1 a -/
noncomputable def kSn3x2_sc : List Nat := [0, 3, 3, 3, 3, 3, 1, 1, 1, 1, 3, 3, 3, 1, 1, 2, 0, 1, 1, 3, 3, 0, 0, 3, 1, 1, 1, 4, 5, 6, 3, 0, 0, 0, 0, 0, 0, 0, 0, 7, 0, 3, 0, 0, 0, 0, 0, 0, 3, 0]
noncomputable def kSn3x2_ins (P : Params) (σ : Nat → Nat) (x : Vals) : List Obj := [
  dO #[ent P (.mk #[99, 101, 108, 108, 115]) (x.t 1) (.ref (σ 1 + 417)), ent P (.mk #[115, 112, 111, 116]) (x.t 2) (.int (3) (x.t 3))] 2,
  lO (x.a 0) (x.n 100)]
noncomputable def kSn3x2_outs (P : Params) (σ τ : Nat → Nat) (x : Vals) : List Obj := [
  dO #[ent P (.mk #[99, 101, 108, 108, 115]) (x.t 1) (.ref (σ 1 + 417)), ent P (.mk #[115, 112, 111, 116]) (x.t 2) (.int (4) (τ 8))] 2,
  lO (x.a 0) (x.n 100)]
noncomputable def kSn3x2_us (P : Params) (T : KT) (σ τ : Nat → Nat) (x : Vals) : List Use := [
  ditemUse σ 3 3 0 #[ent P (.mk #[99, 101, 108, 108, 115]) (x.t 1) (.ref (σ 1 + 417)), ent P (.mk #[115, 112, 111, 116]) (x.t 2) (.int (3) (x.t 3))] 2 (.mk #[115, 112, 111, 116]) (τ 2) (.int (3) (x.t 3)),
  ditemUse σ 3 6 0 #[ent P (.mk #[99, 101, 108, 108, 115]) (x.t 1) (.ref (σ 1 + 417)), ent P (.mk #[115, 112, 111, 116]) (x.t 2) (.int (3) (x.t 3))] 2 (.mk #[115, 112, 111, 116]) (τ 5) (.int (3) (x.t 3)),
  doldUse σ 3 9 0 #[ent P (.mk #[99, 101, 108, 108, 115]) (x.t 1) (.ref (σ 1 + 417)), ent P (.mk #[115, 112, 111, 116]) (x.t 2) (.int (3) (x.t 3))] 2 (.mk #[115, 112, 111, 116]) (τ 5) (.int (4) (τ 8)),
  ditemUse σ 3 11 0 #[ent P (.mk #[99, 101, 108, 108, 115]) (x.t 1) (.ref (σ 1 + 417)), ent P (.mk #[115, 112, 111, 116]) (x.t 2) (.int (4) (τ 8))] 2 (.mk #[99, 101, 108, 108, 115]) (τ 10) (.ref (σ 1 + 417)),
  lenUse σ τ 3 12 1 (x.a 0) (x.n 100),
  cmpUse "int.__lt__" 3 14 (.int (3) (x.t 3)) (.int (((x.a 0)).size : Int) (τ 13)) false,
  cmpUse "int.__lt__" 3 16 (.int (3) (x.t 3)) (.int (6) (τ 15)) true]
structure kSn3x2_facts (P : Params) (σ τ : Nat → Nat) (x : Vals) : Prop where
  f0 : ((x.a 0)).size ≤ 60
  f1 : decide (((3) : Int) < ((x.a 0).size : Int)) = false
noncomputable def kSn3x2 : Seg := ⟨2, fun P T σ x => .code (.call (.ref 403) ⟨[.ref (σ 0 + 417), .int (2) (x.t 0)], []⟩), kSn3x2_ins, [0, 1], kSn3x2_outs, fun P T σ τ x => .res (.ok (.ret (.int (1) (τ 16)))), 1, 17, 84, 88, fun _ => 114, fun _ => kSn3x2_sc, kSn3x2_us⟩

section
variable {F : Fix} {σ τ : Nat → Nat} {lim : Nat} {us : List Use} {K : Addr → Option Obj} {dr : Drawn} {os : OsState} {m₀ i₀ : Nat}
-- DEPS kSn3x2 [kLt]
theorem kSn3x2_us_ok {x : Vals} (hkLt : kLt.Run F.kt) (H : F.Ok) (O : VOk (F.vc σ τ 88 (kSn3x2_us F.w.params (F.kt F.w.params) σ τ x) K dr os m₀ i₀)) (hf : kSn3x2_facts F.w.params σ τ x) : UsesOk (F.vc σ τ 88 (kSn3x2_us F.w.params (F.kt F.w.params) σ τ x) K dr os m₀ i₀) := uses_all (
  all_cons (ditem_use O _ _ _ _ _ (by unfold AllStr; kernel_rfl) (by kernel_rfl)) <|
  all_cons (ditem_use O _ _ _ _ _ (by unfold AllStr; kernel_rfl) (by kernel_rfl)) <|
  all_cons (dold_use O _ _ _ _ _ _ (by unfold AllStr; kernel_rfl) (Nat.le_of_ble_eq_true (by kernel_rfl)) (by kernel_rfl)) <|
  all_cons (ditem_use O _ _ _ _ _ (by unfold AllStr; kernel_rfl) (by kernel_rfl)) <|
  all_cons (len_use O _ _ _ hf.f0) <|
  all_cons (cmp_use hkLt H O (Nat.le_of_ble_eq_true rfl) _ _ (vals [(x.t 3), (τ 13)] [] [(3), ((x.a 0).size : Int)] [] [] [] [] [] [] [] []) (Prod.ext hf.f1 rfl)) <|
  all_cons (cmp_use hkLt H O (Nat.le_of_ble_eq_true rfl) _ _ (vals [(x.t 3), (τ 15)] [] [(3), (6)] [] [] [] [] [] [] [] []) (Prod.ext (by kernel_rfl) rfl)) <|
  all_nil)
theorem kSn3x2_ok (hkSn3x2 : kSn3x2.Run F.kt) (hkLt : kLt.Run F.kt) (H : F.Ok) (O : VOk (F.vc σ τ lim us K dr os m₀ i₀)) (hlim : lim ≤ kSn3x2.n0) (m i : Nat) {js : List Nat} (hnd : js.Nodup) (hL : js.length = kSn3x2.L) {x : Vals} (hf : kSn3x2_facts F.w.params (Seg.σ' σ js m) (Seg.τ' τ i) x) : UseOk (F.vc σ τ lim us K dr os m₀ i₀) (kSn3x2.use F.w.params (F.kt F.w.params) σ τ m i js x) :=
  Seg.useOk hkSn3x2 H O hnd hL rfl (by decide) (by decide) hlim ⟨_, rfl⟩ ⟨_, rfl⟩ fun K' O' => kSn3x2_us_ok (x := x) (hkLt := hkLt) (H := H) (O := O') (hf := hf)
end

/-! kSn4x3: 113 steps, 113 in the other world; 4 t, 0 s, 0 i, 0 b, 0 v, 0 r, 0 e, 1 a -/
noncomputable def kSn4x3_sc : List Nat := [0, 3, 3, 3, 3, 3, 1, 1, 1, 1, 3, 3, 3, 1, 1, 2, 0, 1, 1, 3, 3, 0, 0, 3, 1, 1, 1, 4, 5, 6, 3, 0, 0, 0, 0, 0, 0, 0, 0, 7, 0, 3, 0, 0, 0, 0, 0, 0, 3, 0]
noncomputable def kSn4x3_ins (P : Params) (σ : Nat → Nat) (x : Vals) : List Obj := [
  dO #[ent P (.mk #[99, 101, 108, 108, 115]) (x.t 1) (.ref (σ 1 + 417)), ent P (.mk #[115, 112, 111, 116]) (x.t 2) (.int (4) (x.t 3))] 2,
  lO (x.a 0) (x.n 100)]
noncomputable def kSn4x3_outs (P : Params) (σ τ : Nat → Nat) (x : Vals) : List Obj := [
  dO #[ent P (.mk #[99, 101, 108, 108, 115]) (x.t 1) (.ref (σ 1 + 417)), ent P (.mk #[115, 112, 111, 116]) (x.t 2) (.int (5) (τ 8))] 2,
  lO (x.a 0) (x.n 100)]
noncomputable def kSn4x3_us (P : Params) (T : KT) (σ τ : Nat → Nat) (x : Vals) : List Use := [
  ditemUse σ 3 3 0 #[ent P (.mk #[99, 101, 108, 108, 115]) (x.t 1) (.ref (σ 1 + 417)), ent P (.mk #[115, 112, 111, 116]) (x.t 2) (.int (4) (x.t 3))] 2 (.mk #[115, 112, 111, 116]) (τ 2) (.int (4) (x.t 3)),
  ditemUse σ 3 6 0 #[ent P (.mk #[99, 101, 108, 108, 115]) (x.t 1) (.ref (σ 1 + 417)), ent P (.mk #[115, 112, 111, 116]) (x.t 2) (.int (4) (x.t 3))] 2 (.mk #[115, 112, 111, 116]) (τ 5) (.int (4) (x.t 3)),
  doldUse σ 3 9 0 #[ent P (.mk #[99, 101, 108, 108, 115]) (x.t 1) (.ref (σ 1 + 417)), ent P (.mk #[115, 112, 111, 116]) (x.t 2) (.int (4) (x.t 3))] 2 (.mk #[115, 112, 111, 116]) (τ 5) (.int (5) (τ 8)),
  ditemUse σ 3 11 0 #[ent P (.mk #[99, 101, 108, 108, 115]) (x.t 1) (.ref (σ 1 + 417)), ent P (.mk #[115, 112, 111, 116]) (x.t 2) (.int (5) (τ 8))] 2 (.mk #[99, 101, 108, 108, 115]) (τ 10) (.ref (σ 1 + 417)),
  lenUse σ τ 3 12 1 (x.a 0) (x.n 100),
  cmpUse "int.__lt__" 3 14 (.int (4) (x.t 3)) (.int (((x.a 0)).size : Int) (τ 13)) false,
  cmpUse "int.__lt__" 3 16 (.int (4) (x.t 3)) (.int (6) (τ 15)) true]
structure kSn4x3_facts (P : Params) (σ τ : Nat → Nat) (x : Vals) : Prop where
  f0 : ((x.a 0)).size ≤ 60
  f1 : decide (((4) : Int) < ((x.a 0).size : Int)) = false
noncomputable def kSn4x3 : Seg := ⟨2, fun P T σ x => .code (.call (.ref 403) ⟨[.ref (σ 0 + 417), .int (3) (x.t 0)], []⟩), kSn4x3_ins, [0, 1], kSn4x3_outs, fun P T σ τ x => .res (.ok (.ret (.int (1) (τ 16)))), 1, 17, 84, 88, fun _ => 114, fun _ => kSn4x3_sc, kSn4x3_us⟩

section
variable {F : Fix} {σ τ : Nat → Nat} {lim : Nat} {us : List Use} {K : Addr → Option Obj} {dr : Drawn} {os : OsState} {m₀ i₀ : Nat}
-- DEPS kSn4x3 [kLt]
theorem kSn4x3_us_ok {x : Vals} (hkLt : kLt.Run F.kt) (H : F.Ok) (O : VOk (F.vc σ τ 88 (kSn4x3_us F.w.params (F.kt F.w.params) σ τ x) K dr os m₀ i₀)) (hf : kSn4x3_facts F.w.params σ τ x) : UsesOk (F.vc σ τ 88 (kSn4x3_us F.w.params (F.kt F.w.params) σ τ x) K dr os m₀ i₀) := uses_all (
  all_cons (ditem_use O _ _ _ _ _ (by unfold AllStr; kernel_rfl) (by kernel_rfl)) <|
  all_cons (ditem_use O _ _ _ _ _ (by unfold AllStr; kernel_rfl) (by kernel_rfl)) <|
  all_cons (dold_use O _ _ _ _ _ _ (by unfold AllStr; kernel_rfl) (Nat.le_of_ble_eq_true (by kernel_rfl)) (by kernel_rfl)) <|
  all_cons (ditem_use O _ _ _ _ _ (by unfold AllStr; kernel_rfl) (by kernel_rfl)) <|
  all_cons (len_use O _ _ _ hf.f0) <|
  all_cons (cmp_use hkLt H O (Nat.le_of_ble_eq_true rfl) _ _ (vals [(x.t 3), (τ 13)] [] [(4), ((x.a 0).size : Int)] [] [] [] [] [] [] [] []) (Prod.ext hf.f1 rfl)) <|
  all_cons (cmp_use hkLt H O (Nat.le_of_ble_eq_true rfl) _ _ (vals [(x.t 3), (τ 15)] [] [(4), (6)] [] [] [] [] [] [] [] []) (Prod.ext (by kernel_rfl) rfl)) <|
  all_nil)
theorem kSn4x3_ok (hkSn4x3 : kSn4x3.Run F.kt) (hkLt : kLt.Run F.kt) (H : F.Ok) (O : VOk (F.vc σ τ lim us K dr os m₀ i₀)) (hlim : lim ≤ kSn4x3.n0) (m i : Nat) {js : List Nat} (hnd : js.Nodup) (hL : js.length = kSn4x3.L) {x : Vals} (hf : kSn4x3_facts F.w.params (Seg.σ' σ js m) (Seg.τ' τ i) x) : UseOk (F.vc σ τ lim us K dr os m₀ i₀) (kSn4x3.use F.w.params (F.kt F.w.params) σ τ m i js x) :=
  Seg.useOk hkSn4x3 H O hnd hL rfl (by decide) (by decide) hlim ⟨_, rfl⟩ ⟨_, rfl⟩ fun K' O' => kSn4x3_us_ok (x := x) (hkLt := hkLt) (H := H) (O := O') (hf := hf)
end

/-! kSn5x2: 113 steps, 113 in the other world; 4 t, 0 s, 0 i, 0 b, 0 v, 0 r, 0 e, 1 a -/
noncomputable def kSn5x2_sc : List Nat := [0, 3, 3, 3, 3, 3, 1, 1, 1, 1, 3, 3, 3, 1, 1, 2, 0, 1, 1, 3, 3, 0, 0, 3, 1, 1, 1, 4, 5, 6, 3, 0, 0, 0, 0, 0, 0, 0, 0, 7, 0, 3, 0, 0, 0, 0, 0, 0, 3, 0]
noncomputable def kSn5x2_ins (P : Params) (σ : Nat → Nat) (x : Vals) : List Obj := [
  dO #[ent P (.mk #[99, 101, 108, 108, 115]) (x.t 1) (.ref (σ 1 + 417)), ent P (.mk #[115, 112, 111, 116]) (x.t 2) (.int (5) (x.t 3))] 2,
  lO (x.a 0) (x.n 100)]
noncomputable def kSn5x2_outs (P : Params) (σ τ : Nat → Nat) (x : Vals) : List Obj := [
  dO #[ent P (.mk #[99, 101, 108, 108, 115]) (x.t 1) (.ref (σ 1 + 417)), ent P (.mk #[115, 112, 111, 116]) (x.t 2) (.int (6) (τ 8))] 2,
  lO (x.a 0) (x.n 100)]
noncomputable def kSn5x2_us (P : Params) (T : KT) (σ τ : Nat → Nat) (x : Vals) : List Use := [
  ditemUse σ 3 3 0 #[ent P (.mk #[99, 101, 108, 108, 115]) (x.t 1) (.ref (σ 1 + 417)), ent P (.mk #[115, 112, 111, 116]) (x.t 2) (.int (5) (x.t 3))] 2 (.mk #[115, 112, 111, 116]) (τ 2) (.int (5) (x.t 3)),
  ditemUse σ 3 6 0 #[ent P (.mk #[99, 101, 108, 108, 115]) (x.t 1) (.ref (σ 1 + 417)), ent P (.mk #[115, 112, 111, 116]) (x.t 2) (.int (5) (x.t 3))] 2 (.mk #[115, 112, 111, 116]) (τ 5) (.int (5) (x.t 3)),
  doldUse σ 3 9 0 #[ent P (.mk #[99, 101, 108, 108, 115]) (x.t 1) (.ref (σ 1 + 417)), ent P (.mk #[115, 112, 111, 116]) (x.t 2) (.int (5) (x.t 3))] 2 (.mk #[115, 112, 111, 116]) (τ 5) (.int (6) (τ 8)),
  ditemUse σ 3 11 0 #[ent P (.mk #[99, 101, 108, 108, 115]) (x.t 1) (.ref (σ 1 + 417)), ent P (.mk #[115, 112, 111, 116]) (x.t 2) (.int (6) (τ 8))] 2 (.mk #[99, 101, 108, 108, 115]) (τ 10) (.ref (σ 1 + 417)),
  lenUse σ τ 3 12 1 (x.a 0) (x.n 100),
  cmpUse "int.__lt__" 3 14 (.int (5) (x.t 3)) (.int (((x.a 0)).size : Int) (τ 13)) false,
  cmpUse "int.__lt__" 3 16 (.int (5) (x.t 3)) (.int (6) (τ 15)) true]
structure kSn5x2_facts (P : Params) (σ τ : Nat → Nat) (x : Vals) : Prop where
  f0 : ((x.a 0)).size ≤ 60
  f1 : decide (((5) : Int) < ((x.a 0).size : Int)) = false
noncomputable def kSn5x2 : Seg := ⟨2, fun P T σ x => .code (.call (.ref 403) ⟨[.ref (σ 0 + 417), .int (2) (x.t 0)], []⟩), kSn5x2_ins, [0, 1], kSn5x2_outs, fun P T σ τ x => .res (.ok (.ret (.int (0) (τ 16)))), 1, 17, 84, 88, fun _ => 114, fun _ => kSn5x2_sc, kSn5x2_us⟩

section
variable {F : Fix} {σ τ : Nat → Nat} {lim : Nat} {us : List Use} {K : Addr → Option Obj} {dr : Drawn} {os : OsState} {m₀ i₀ : Nat}
-- DEPS kSn5x2 [kLt]
theorem kSn5x2_us_ok {x : Vals} (hkLt : kLt.Run F.kt) (H : F.Ok) (O : VOk (F.vc σ τ 88 (kSn5x2_us F.w.params (F.kt F.w.params) σ τ x) K dr os m₀ i₀)) (hf : kSn5x2_facts F.w.params σ τ x) : UsesOk (F.vc σ τ 88 (kSn5x2_us F.w.params (F.kt F.w.params) σ τ x) K dr os m₀ i₀) := uses_all (
  all_cons (ditem_use O _ _ _ _ _ (by unfold AllStr; kernel_rfl) (by kernel_rfl)) <|
  all_cons (ditem_use O _ _ _ _ _ (by unfold AllStr; kernel_rfl) (by kernel_rfl)) <|
  all_cons (dold_use O _ _ _ _ _ _ (by unfold AllStr; kernel_rfl) (Nat.le_of_ble_eq_true (by kernel_rfl)) (by kernel_rfl)) <|
  all_cons (ditem_use O _ _ _ _ _ (by unfold AllStr; kernel_rfl) (by kernel_rfl)) <|
  all_cons (len_use O _ _ _ hf.f0) <|
  all_cons (cmp_use hkLt H O (Nat.le_of_ble_eq_true rfl) _ _ (vals [(x.t 3), (τ 13)] [] [(5), ((x.a 0).size : Int)] [] [] [] [] [] [] [] []) (Prod.ext hf.f1 rfl)) <|
  all_cons (cmp_use hkLt H O (Nat.le_of_ble_eq_true rfl) _ _ (vals [(x.t 3), (τ 15)] [] [(5), (6)] [] [] [] [] [] [] [] []) (Prod.ext (by kernel_rfl) rfl)) <|
  all_nil)
theorem kSn5x2_ok (hkSn5x2 : kSn5x2.Run F.kt) (hkLt : kLt.Run F.kt) (H : F.Ok) (O : VOk (F.vc σ τ lim us K dr os m₀ i₀)) (hlim : lim ≤ kSn5x2.n0) (m i : Nat) {js : List Nat} (hnd : js.Nodup) (hL : js.length = kSn5x2.L) {x : Vals} (hf : kSn5x2_facts F.w.params (Seg.σ' σ js m) (Seg.τ' τ i) x) : UseOk (F.vc σ τ lim us K dr os m₀ i₀) (kSn5x2.use F.w.params (F.kt F.w.params) σ τ m i js x) :=
  Seg.useOk hkSn5x2 H O hnd hL rfl (by decide) (by decide) hlim ⟨_, rfl⟩ ⟨_, rfl⟩ fun K' O' => kSn5x2_us_ok (x := x) (hkLt := hkLt) (H := H) (O := O') (hf := hf)
end

/-! kSn6x2: 102 steps, 102 in the other world; 4 t, 0 s, 0 i, 0 b, 0 v, 0 r, 0 e, 1 a -/
noncomputable def kSn6x2_sc : List Nat := [0, 3, 3, 3, 3, 3, 1, 1, 1, 1, 3, 3, 3, 1, 1, 2, 0, 1, 1, 3, 3, 0, 0, 3, 1, 1, 1, 4, 5, 6, 3, 0, 0, 0, 0, 0, 0, 0, 0, 7, 3, 3, 0]
noncomputable def kSn6x2_ins (P : Params) (σ : Nat → Nat) (x : Vals) : List Obj := [
  dO #[ent P (.mk #[99, 101, 108, 108, 115]) (x.t 1) (.ref (σ 1 + 417)), ent P (.mk #[115, 112, 111, 116]) (x.t 2) (.int (6) (x.t 3))] 2,
  lO (x.a 0) (x.n 100)]
noncomputable def kSn6x2_outs (P : Params) (σ τ : Nat → Nat) (x : Vals) : List Obj := [
  dO #[ent P (.mk #[99, 101, 108, 108, 115]) (x.t 1) (.ref (σ 1 + 417)), ent P (.mk #[115, 112, 111, 116]) (x.t 2) (.int (7) (τ 8))] 2,
  lO (x.a 0) (x.n 100)]
noncomputable def kSn6x2_us (P : Params) (T : KT) (σ τ : Nat → Nat) (x : Vals) : List Use := [
  ditemUse σ 3 3 0 #[ent P (.mk #[99, 101, 108, 108, 115]) (x.t 1) (.ref (σ 1 + 417)), ent P (.mk #[115, 112, 111, 116]) (x.t 2) (.int (6) (x.t 3))] 2 (.mk #[115, 112, 111, 116]) (τ 2) (.int (6) (x.t 3)),
  ditemUse σ 3 6 0 #[ent P (.mk #[99, 101, 108, 108, 115]) (x.t 1) (.ref (σ 1 + 417)), ent P (.mk #[115, 112, 111, 116]) (x.t 2) (.int (6) (x.t 3))] 2 (.mk #[115, 112, 111, 116]) (τ 5) (.int (6) (x.t 3)),
  doldUse σ 3 9 0 #[ent P (.mk #[99, 101, 108, 108, 115]) (x.t 1) (.ref (σ 1 + 417)), ent P (.mk #[115, 112, 111, 116]) (x.t 2) (.int (6) (x.t 3))] 2 (.mk #[115, 112, 111, 116]) (τ 5) (.int (7) (τ 8)),
  ditemUse σ 3 11 0 #[ent P (.mk #[99, 101, 108, 108, 115]) (x.t 1) (.ref (σ 1 + 417)), ent P (.mk #[115, 112, 111, 116]) (x.t 2) (.int (7) (τ 8))] 2 (.mk #[99, 101, 108, 108, 115]) (τ 10) (.ref (σ 1 + 417)),
  lenUse σ τ 3 12 1 (x.a 0) (x.n 100),
  cmpUse "int.__lt__" 3 14 (.int (6) (x.t 3)) (.int (((x.a 0)).size : Int) (τ 13)) false,
  cmpUse "int.__lt__" 3 16 (.int (6) (x.t 3)) (.int (6) (τ 15)) false]
structure kSn6x2_facts (P : Params) (σ τ : Nat → Nat) (x : Vals) : Prop where
  f0 : ((x.a 0)).size ≤ 60
  f1 : decide (((6) : Int) < ((x.a 0).size : Int)) = false
noncomputable def kSn6x2 : Seg := ⟨2, fun P T σ x => .code (.call (.ref 403) ⟨[.ref (σ 0 + 417), .int (2) (x.t 0)], []⟩), kSn6x2_ins, [0, 1], kSn6x2_outs, fun P T σ τ x => .res (.ok (.ret (.int (0) (τ 16)))), 1, 17, 84, 88, fun _ => 103, fun _ => kSn6x2_sc, kSn6x2_us⟩

section
variable {F : Fix} {σ τ : Nat → Nat} {lim : Nat} {us : List Use} {K : Addr → Option Obj} {dr : Drawn} {os : OsState} {m₀ i₀ : Nat}
-- DEPS kSn6x2 [kLt]
theorem kSn6x2_us_ok {x : Vals} (hkLt : kLt.Run F.kt) (H : F.Ok) (O : VOk (F.vc σ τ 88 (kSn6x2_us F.w.params (F.kt F.w.params) σ τ x) K dr os m₀ i₀)) (hf : kSn6x2_facts F.w.params σ τ x) : UsesOk (F.vc σ τ 88 (kSn6x2_us F.w.params (F.kt F.w.params) σ τ x) K dr os m₀ i₀) := uses_all (
  all_cons (ditem_use O _ _ _ _ _ (by unfold AllStr; kernel_rfl) (by kernel_rfl)) <|
  all_cons (ditem_use O _ _ _ _ _ (by unfold AllStr; kernel_rfl) (by kernel_rfl)) <|
  all_cons (dold_use O _ _ _ _ _ _ (by unfold AllStr; kernel_rfl) (Nat.le_of_ble_eq_true (by kernel_rfl)) (by kernel_rfl)) <|
  all_cons (ditem_use O _ _ _ _ _ (by unfold AllStr; kernel_rfl) (by kernel_rfl)) <|
  all_cons (len_use O _ _ _ hf.f0) <|
  all_cons (cmp_use hkLt H O (Nat.le_of_ble_eq_true rfl) _ _ (vals [(x.t 3), (τ 13)] [] [(6), ((x.a 0).size : Int)] [] [] [] [] [] [] [] []) (Prod.ext hf.f1 rfl)) <|
  all_cons (cmp_use hkLt H O (Nat.le_of_ble_eq_true rfl) _ _ (vals [(x.t 3), (τ 15)] [] [(6), (6)] [] [] [] [] [] [] [] []) (Prod.ext (by kernel_rfl) rfl)) <|
  all_nil)
theorem kSn6x2_ok (hkSn6x2 : kSn6x2.Run F.kt) (hkLt : kLt.Run F.kt) (H : F.Ok) (O : VOk (F.vc σ τ lim us K dr os m₀ i₀)) (hlim : lim ≤ kSn6x2.n0) (m i : Nat) {js : List Nat} (hnd : js.Nodup) (hL : js.length = kSn6x2.L) {x : Vals} (hf : kSn6x2_facts F.w.params (Seg.σ' σ js m) (Seg.τ' τ i) x) : UseOk (F.vc σ τ lim us K dr os m₀ i₀) (kSn6x2.use F.w.params (F.kt F.w.params) σ τ m i js x) :=
  Seg.useOk hkSn6x2 H O hnd hL rfl (by decide) (by decide) hlim ⟨_, rfl⟩ ⟨_, rfl⟩ fun K' O' => kSn6x2_us_ok (x := x) (hkLt := hkLt) (H := H) (O := O') (hf := hf)
end

/-! kSn7x3: 102 steps, 102 in the other world; 4 t, 0 s, 0 i, 0 b, 0 v, 0 r, 0 e, 1 a -/
noncomputable def kSn7x3_sc : List Nat := [0, 3, 3, 3, 3, 3, 1, 1, 1, 1, 3, 3, 3, 1, 1, 2, 0, 1, 1, 3, 3, 0, 0, 3, 1, 1, 1, 4, 5, 6, 3, 0, 0, 0, 0, 0, 0, 0, 0, 7, 3, 3, 0]
noncomputable def kSn7x3_ins (P : Params) (σ : Nat → Nat) (x : Vals) : List Obj := [
  dO #[ent P (.mk #[99, 101, 108, 108, 115]) (x.t 1) (.ref (σ 1 + 417)), ent P (.mk #[115, 112, 111, 116]) (x.t 2) (.int (7) (x.t 3))] 2,
  lO (x.a 0) (x.n 100)]
noncomputable def kSn7x3_outs (P : Params) (σ τ : Nat → Nat) (x : Vals) : List Obj := [
  dO #[ent P (.mk #[99, 101, 108, 108, 115]) (x.t 1) (.ref (σ 1 + 417)), ent P (.mk #[115, 112, 111, 116]) (x.t 2) (.int (8) (τ 8))] 2,
  lO (x.a 0) (x.n 100)]
noncomputable def kSn7x3_us (P : Params) (T : KT) (σ τ : Nat → Nat) (x : Vals) : List Use := [
  ditemUse σ 3 3 0 #[ent P (.mk #[99, 101, 108, 108, 115]) (x.t 1) (.ref (σ 1 + 417)), ent P (.mk #[115, 112, 111, 116]) (x.t 2) (.int (7) (x.t 3))] 2 (.mk #[115, 112, 111, 116]) (τ 2) (.int (7) (x.t 3)),
  ditemUse σ 3 6 0 #[ent P (.mk #[99, 101, 108, 108, 115]) (x.t 1) (.ref (σ 1 + 417)), ent P (.mk #[115, 112, 111, 116]) (x.t 2) (.int (7) (x.t 3))] 2 (.mk #[115, 112, 111, 116]) (τ 5) (.int (7) (x.t 3)),
  doldUse σ 3 9 0 #[ent P (.mk #[99, 101, 108, 108, 115]) (x.t 1) (.ref (σ 1 + 417)), ent P (.mk #[115, 112, 111, 116]) (x.t 2) (.int (7) (x.t 3))] 2 (.mk #[115, 112, 111, 116]) (τ 5) (.int (8) (τ 8)),
  ditemUse σ 3 11 0 #[ent P (.mk #[99, 101, 108, 108, 115]) (x.t 1) (.ref (σ 1 + 417)), ent P (.mk #[115, 112, 111, 116]) (x.t 2) (.int (8) (τ 8))] 2 (.mk #[99, 101, 108, 108, 115]) (τ 10) (.ref (σ 1 + 417)),
  lenUse σ τ 3 12 1 (x.a 0) (x.n 100),
  cmpUse "int.__lt__" 3 14 (.int (7) (x.t 3)) (.int (((x.a 0)).size : Int) (τ 13)) false,
  cmpUse "int.__lt__" 3 16 (.int (7) (x.t 3)) (.int (6) (τ 15)) false]
structure kSn7x3_facts (P : Params) (σ τ : Nat → Nat) (x : Vals) : Prop where
  f0 : ((x.a 0)).size ≤ 60
  f1 : decide (((7) : Int) < ((x.a 0).size : Int)) = false
noncomputable def kSn7x3 : Seg := ⟨2, fun P T σ x => .code (.call (.ref 403) ⟨[.ref (σ 0 + 417), .int (3) (x.t 0)], []⟩), kSn7x3_ins, [0, 1], kSn7x3_outs, fun P T σ τ x => .res (.ok (.ret (.int (1) (τ 16)))), 1, 17, 84, 88, fun _ => 103, fun _ => kSn7x3_sc, kSn7x3_us⟩

section
variable {F : Fix} {σ τ : Nat → Nat} {lim : Nat} {us : List Use} {K : Addr → Option Obj} {dr : Drawn} {os : OsState} {m₀ i₀ : Nat}
-- DEPS kSn7x3 [kLt]
theorem kSn7x3_us_ok {x : Vals} (hkLt : kLt.Run F.kt) (H : F.Ok) (O : VOk (F.vc σ τ 88 (kSn7x3_us F.w.params (F.kt F.w.params) σ τ x) K dr os m₀ i₀)) (hf : kSn7x3_facts F.w.params σ τ x) : UsesOk (F.vc σ τ 88 (kSn7x3_us F.w.params (F.kt F.w.params) σ τ x) K dr os m₀ i₀) := uses_all (
  all_cons (ditem_use O _ _ _ _ _ (by unfold AllStr; kernel_rfl) (by kernel_rfl)) <|
  all_cons (ditem_use O _ _ _ _ _ (by unfold AllStr; kernel_rfl) (by kernel_rfl)) <|
  all_cons (dold_use O _ _ _ _ _ _ (by unfold AllStr; kernel_rfl) (Nat.le_of_ble_eq_true (by kernel_rfl)) (by kernel_rfl)) <|
  all_cons (ditem_use O _ _ _ _ _ (by unfold AllStr; kernel_rfl) (by kernel_rfl)) <|
  all_cons (len_use O _ _ _ hf.f0) <|
  all_cons (cmp_use hkLt H O (Nat.le_of_ble_eq_true rfl) _ _ (vals [(x.t 3), (τ 13)] [] [(7), ((x.a 0).size : Int)] [] [] [] [] [] [] [] []) (Prod.ext hf.f1 rfl)) <|
  all_cons (cmp_use hkLt H O (Nat.le_of_ble_eq_true rfl) _ _ (vals [(x.t 3), (τ 15)] [] [(7), (6)] [] [] [] [] [] [] [] []) (Prod.ext (by kernel_rfl) rfl)) <|
  all_nil)
theorem kSn7x3_ok (hkSn7x3 : kSn7x3.Run F.kt) (hkLt : kLt.Run F.kt) (H : F.Ok) (O : VOk (F.vc σ τ lim us K dr os m₀ i₀)) (hlim : lim ≤ kSn7x3.n0) (m i : Nat) {js : List Nat} (hnd : js.Nodup) (hL : js.length = kSn7x3.L) {x : Vals} (hf : kSn7x3_facts F.w.params (Seg.σ' σ js m) (Seg.τ' τ i) x) : UseOk (F.vc σ τ lim us K dr os m₀ i₀) (kSn7x3.use F.w.params (F.kt F.w.params) σ τ m i js x) :=
  Seg.useOk hkSn7x3 H O hnd hL rfl (by decide) (by decide) hlim ⟨_, rfl⟩ ⟨_, rfl⟩ fun K' O' => kSn7x3_us_ok (x := x) (hkLt := hkLt) (H := H) (O := O') (hf := hf)
end

/-! kSn8x2: 102 steps, 102 in the other world; 4 t, 0 s, 0 i, 0 b, 0 v, 0 r, 0 e, 1 a -/
noncomputable def kSn8x2_sc : List Nat := [0, 3, 3, 3, 3, 3, 1, 1, 1, 1, 3, 3, 3, 1, 1, 2, 0, 1, 1, 3, 3, 0, 0, 3, 1, 1, 1, 4, 5, 6, 3, 0, 0, 0, 0, 0, 0, 0, 0, 7, 3, 3, 0]
noncomputable def kSn8x2_ins (P : Params) (σ : Nat → Nat) (x : Vals) : List Obj := [
  dO #[ent P (.mk #[99, 101, 108, 108, 115]) (x.t 1) (.ref (σ 1 + 417)), ent P (.mk #[115, 112, 111, 116]) (x.t 2) (.int (8) (x.t 3))] 2,
  lO (x.a 0) (x.n 100)]
noncomputable def kSn8x2_outs (P : Params) (σ τ : Nat → Nat) (x : Vals) : List Obj := [
  dO #[ent P (.mk #[99, 101, 108, 108, 115]) (x.t 1) (.ref (σ 1 + 417)), ent P (.mk #[115, 112, 111, 116]) (x.t 2) (.int (9) (τ 8))] 2,
  lO (x.a 0) (x.n 100)]
noncomputable def kSn8x2_us (P : Params) (T : KT) (σ τ : Nat → Nat) (x : Vals) : List Use := [
  ditemUse σ 3 3 0 #[ent P (.mk #[99, 101, 108, 108, 115]) (x.t 1) (.ref (σ 1 + 417)), ent P (.mk #[115, 112, 111, 116]) (x.t 2) (.int (8) (x.t 3))] 2 (.mk #[115, 112, 111, 116]) (τ 2) (.int (8) (x.t 3)),
  ditemUse σ 3 6 0 #[ent P (.mk #[99, 101, 108, 108, 115]) (x.t 1) (.ref (σ 1 + 417)), ent P (.mk #[115, 112, 111, 116]) (x.t 2) (.int (8) (x.t 3))] 2 (.mk #[115, 112, 111, 116]) (τ 5) (.int (8) (x.t 3)),
  doldUse σ 3 9 0 #[ent P (.mk #[99, 101, 108, 108, 115]) (x.t 1) (.ref (σ 1 + 417)), ent P (.mk #[115, 112, 111, 116]) (x.t 2) (.int (8) (x.t 3))] 2 (.mk #[115, 112, 111, 116]) (τ 5) (.int (9) (τ 8)),
  ditemUse σ 3 11 0 #[ent P (.mk #[99, 101, 108, 108, 115]) (x.t 1) (.ref (σ 1 + 417)), ent P (.mk #[115, 112, 111, 116]) (x.t 2) (.int (9) (τ 8))] 2 (.mk #[99, 101, 108, 108, 115]) (τ 10) (.ref (σ 1 + 417)),
  lenUse σ τ 3 12 1 (x.a 0) (x.n 100),
  cmpUse "int.__lt__" 3 14 (.int (8) (x.t 3)) (.int (((x.a 0)).size : Int) (τ 13)) false,
  cmpUse "int.__lt__" 3 16 (.int (8) (x.t 3)) (.int (6) (τ 15)) false]
structure kSn8x2_facts (P : Params) (σ τ : Nat → Nat) (x : Vals) : Prop where
  f0 : ((x.a 0)).size ≤ 60
  f1 : decide (((8) : Int) < ((x.a 0).size : Int)) = false
noncomputable def kSn8x2 : Seg := ⟨2, fun P T σ x => .code (.call (.ref 403) ⟨[.ref (σ 0 + 417), .int (2) (x.t 0)], []⟩), kSn8x2_ins, [0, 1], kSn8x2_outs, fun P T σ τ x => .res (.ok (.ret (.int (0) (τ 16)))), 1, 17, 84, 88, fun _ => 103, fun _ => kSn8x2_sc, kSn8x2_us⟩

section
variable {F : Fix} {σ τ : Nat → Nat} {lim : Nat} {us : List Use} {K : Addr → Option Obj} {dr : Drawn} {os : OsState} {m₀ i₀ : Nat}
-- DEPS kSn8x2 [kLt]
theorem kSn8x2_us_ok {x : Vals} (hkLt : kLt.Run F.kt) (H : F.Ok) (O : VOk (F.vc σ τ 88 (kSn8x2_us F.w.params (F.kt F.w.params) σ τ x) K dr os m₀ i₀)) (hf : kSn8x2_facts F.w.params σ τ x) : UsesOk (F.vc σ τ 88 (kSn8x2_us F.w.params (F.kt F.w.params) σ τ x) K dr os m₀ i₀) := uses_all (
  all_cons (ditem_use O _ _ _ _ _ (by unfold AllStr; kernel_rfl) (by kernel_rfl)) <|
  all_cons (ditem_use O _ _ _ _ _ (by unfold AllStr; kernel_rfl) (by kernel_rfl)) <|
  all_cons (dold_use O _ _ _ _ _ _ (by unfold AllStr; kernel_rfl) (Nat.le_of_ble_eq_true (by kernel_rfl)) (by kernel_rfl)) <|
  all_cons (ditem_use O _ _ _ _ _ (by unfold AllStr; kernel_rfl) (by kernel_rfl)) <|
  all_cons (len_use O _ _ _ hf.f0) <|
  all_cons (cmp_use hkLt H O (Nat.le_of_ble_eq_true rfl) _ _ (vals [(x.t 3), (τ 13)] [] [(8), ((x.a 0).size : Int)] [] [] [] [] [] [] [] []) (Prod.ext hf.f1 rfl)) <|
  all_cons (cmp_use hkLt H O (Nat.le_of_ble_eq_true rfl) _ _ (vals [(x.t 3), (τ 15)] [] [(8), (6)] [] [] [] [] [] [] [] []) (Prod.ext (by kernel_rfl) rfl)) <|
  all_nil)
theorem kSn8x2_ok (hkSn8x2 : kSn8x2.Run F.kt) (hkLt : kLt.Run F.kt) (H : F.Ok) (O : VOk (F.vc σ τ lim us K dr os m₀ i₀)) (hlim : lim ≤ kSn8x2.n0) (m i : Nat) {js : List Nat} (hnd : js.Nodup) (hL : js.length = kSn8x2.L) {x : Vals} (hf : kSn8x2_facts F.w.params (Seg.σ' σ js m) (Seg.τ' τ i) x) : UseOk (F.vc σ τ lim us K dr os m₀ i₀) (kSn8x2.use F.w.params (F.kt F.w.params) σ τ m i js x) :=
  Seg.useOk hkSn8x2 H O hnd hL rfl (by decide) (by decide) hlim ⟨_, rfl⟩ ⟨_, rfl⟩ fun K' O' => kSn8x2_us_ok (x := x) (hkLt := hkLt) (H := H) (O := O') (hf := hf)
end

/-! kSn9x2: 102 steps, 102 in the other world; 4 t, 0 s, 0 i, 0 b, 0 v, 0 r, 0 e, 1 a -/
noncomputable def kSn9x2_sc : List Nat := [0, 3, 3, 3, 3, 3, 1, 1, 1, 1, 3, 3, 3, 1, 1, 2, 0, 1, 1, 3, 3, 0, 0, 3, 1, 1, 1, 4, 5, 6, 3, 0, 0, 0, 0, 0, 0, 0, 0, 7, 3, 3, 0]
noncomputable def kSn9x2_ins (P : Params) (σ : Nat → Nat) (x : Vals) : List Obj := [
  dO #[ent P (.mk #[99, 101, 108, 108, 115]) (x.t 1) (.ref (σ 1 + 417)), ent P (.mk #[115, 112, 111, 116]) (x.t 2) (.int (9) (x.t 3))] 2,
  lO (x.a 0) (x.n 100)]
noncomputable def kSn9x2_outs (P : Params) (σ τ : Nat → Nat) (x : Vals) : List Obj := [
  dO #[ent P (.mk #[99, 101, 108, 108, 115]) (x.t 1) (.ref (σ 1 + 417)), ent P (.mk #[115, 112, 111, 116]) (x.t 2) (.int (10) (τ 8))] 2,
  lO (x.a 0) (x.n 100)]
noncomputable def kSn9x2_us (P : Params) (T : KT) (σ τ : Nat → Nat) (x : Vals) : List Use := [
  ditemUse σ 3 3 0 #[ent P (.mk #[99, 101, 108, 108, 115]) (x.t 1) (.ref (σ 1 + 417)), ent P (.mk #[115, 112, 111, 116]) (x.t 2) (.int (9) (x.t 3))] 2 (.mk #[115, 112, 111, 116]) (τ 2) (.int (9) (x.t 3)),
  ditemUse σ 3 6 0 #[ent P (.mk #[99, 101, 108, 108, 115]) (x.t 1) (.ref (σ 1 + 417)), ent P (.mk #[115, 112, 111, 116]) (x.t 2) (.int (9) (x.t 3))] 2 (.mk #[115, 112, 111, 116]) (τ 5) (.int (9) (x.t 3)),
  doldUse σ 3 9 0 #[ent P (.mk #[99, 101, 108, 108, 115]) (x.t 1) (.ref (σ 1 + 417)), ent P (.mk #[115, 112, 111, 116]) (x.t 2) (.int (9) (x.t 3))] 2 (.mk #[115, 112, 111, 116]) (τ 5) (.int (10) (τ 8)),
  ditemUse σ 3 11 0 #[ent P (.mk #[99, 101, 108, 108, 115]) (x.t 1) (.ref (σ 1 + 417)), ent P (.mk #[115, 112, 111, 116]) (x.t 2) (.int (10) (τ 8))] 2 (.mk #[99, 101, 108, 108, 115]) (τ 10) (.ref (σ 1 + 417)),
  lenUse σ τ 3 12 1 (x.a 0) (x.n 100),
  cmpUse "int.__lt__" 3 14 (.int (9) (x.t 3)) (.int (((x.a 0)).size : Int) (τ 13)) false,
  cmpUse "int.__lt__" 3 16 (.int (9) (x.t 3)) (.int (6) (τ 15)) false]
structure kSn9x2_facts (P : Params) (σ τ : Nat → Nat) (x : Vals) : Prop where
  f0 : ((x.a 0)).size ≤ 60
  f1 : decide (((9) : Int) < ((x.a 0).size : Int)) = false
noncomputable def kSn9x2 : Seg := ⟨2, fun P T σ x => .code (.call (.ref 403) ⟨[.ref (σ 0 + 417), .int (2) (x.t 0)], []⟩), kSn9x2_ins, [0, 1], kSn9x2_outs, fun P T σ τ x => .res (.ok (.ret (.int (1) (τ 16)))), 1, 17, 84, 88, fun _ => 103, fun _ => kSn9x2_sc, kSn9x2_us⟩

section
variable {F : Fix} {σ τ : Nat → Nat} {lim : Nat} {us : List Use} {K : Addr → Option Obj} {dr : Drawn} {os : OsState} {m₀ i₀ : Nat}
-- DEPS kSn9x2 [kLt]
theorem kSn9x2_us_ok {x : Vals} (hkLt : kLt.Run F.kt) (H : F.Ok) (O : VOk (F.vc σ τ 88 (kSn9x2_us F.w.params (F.kt F.w.params) σ τ x) K dr os m₀ i₀)) (hf : kSn9x2_facts F.w.params σ τ x) : UsesOk (F.vc σ τ 88 (kSn9x2_us F.w.params (F.kt F.w.params) σ τ x) K dr os m₀ i₀) := uses_all (
  all_cons (ditem_use O _ _ _ _ _ (by unfold AllStr; kernel_rfl) (by kernel_rfl)) <|
  all_cons (ditem_use O _ _ _ _ _ (by unfold AllStr; kernel_rfl) (by kernel_rfl)) <|
  all_cons (dold_use O _ _ _ _ _ _ (by unfold AllStr; kernel_rfl) (Nat.le_of_ble_eq_true (by kernel_rfl)) (by kernel_rfl)) <|
  all_cons (ditem_use O _ _ _ _ _ (by unfold AllStr; kernel_rfl) (by kernel_rfl)) <|
  all_cons (len_use O _ _ _ hf.f0) <|
  all_cons (cmp_use hkLt H O (Nat.le_of_ble_eq_true rfl) _ _ (vals [(x.t 3), (τ 13)] [] [(9), ((x.a 0).size : Int)] [] [] [] [] [] [] [] []) (Prod.ext hf.f1 rfl)) <|
  all_cons (cmp_use hkLt H O (Nat.le_of_ble_eq_true rfl) _ _ (vals [(x.t 3), (τ 15)] [] [(9), (6)] [] [] [] [] [] [] [] []) (Prod.ext (by kernel_rfl) rfl)) <|
  all_nil)
theorem kSn9x2_ok (hkSn9x2 : kSn9x2.Run F.kt) (hkLt : kLt.Run F.kt) (H : F.Ok) (O : VOk (F.vc σ τ lim us K dr os m₀ i₀)) (hlim : lim ≤ kSn9x2.n0) (m i : Nat) {js : List Nat} (hnd : js.Nodup) (hL : js.length = kSn9x2.L) {x : Vals} (hf : kSn9x2_facts F.w.params (Seg.σ' σ js m) (Seg.τ' τ i) x) : UseOk (F.vc σ τ lim us K dr os m₀ i₀) (kSn9x2.use F.w.params (F.kt F.w.params) σ τ m i js x) :=
  Seg.useOk hkSn9x2 H O hnd hL rfl (by decide) (by decide) hlim ⟨_, rfl⟩ ⟨_, rfl⟩ fun K' O' => kSn9x2_us_ok (x := x) (hkLt := hkLt) (H := H) (O := O') (hf := hf)
end

/-! kSn10x3: 102 steps, 102 in the other world; 4 t, 0 s, 0 i, 0 b, 0 v, 0 r, 0 e, 1 a -/
noncomputable def kSn10x3_sc : List Nat := [0, 3, 3, 3, 3, 3, 1, 1, 1, 1, 3, 3, 3, 1, 1, 2, 0, 1, 1, 3, 3, 0, 0, 3, 1, 1, 1, 4, 5, 6, 3, 0, 0, 0, 0, 0, 0, 0, 0, 7, 3, 3, 0]
noncomputable def kSn10x3_ins (P : Params) (σ : Nat → Nat) (x : Vals) : List Obj := [
  dO #[ent P (.mk #[99, 101, 108, 108, 115]) (x.t 1) (.ref (σ 1 + 417)), ent P (.mk #[115, 112, 111, 116]) (x.t 2) (.int (10) (x.t 3))] 2,
  lO (x.a 0) (x.n 100)]
noncomputable def kSn10x3_outs (P : Params) (σ τ : Nat → Nat) (x : Vals) : List Obj := [
  dO #[ent P (.mk #[99, 101, 108, 108, 115]) (x.t 1) (.ref (σ 1 + 417)), ent P (.mk #[115, 112, 111, 116]) (x.t 2) (.int (11) (τ 8))] 2,
  lO (x.a 0) (x.n 100)]
noncomputable def kSn10x3_us (P : Params) (T : KT) (σ τ : Nat → Nat) (x : Vals) : List Use := [
  ditemUse σ 3 3 0 #[ent P (.mk #[99, 101, 108, 108, 115]) (x.t 1) (.ref (σ 1 + 417)), ent P (.mk #[115, 112, 111, 116]) (x.t 2) (.int (10) (x.t 3))] 2 (.mk #[115, 112, 111, 116]) (τ 2) (.int (10) (x.t 3)),
  ditemUse σ 3 6 0 #[ent P (.mk #[99, 101, 108, 108, 115]) (x.t 1) (.ref (σ 1 + 417)), ent P (.mk #[115, 112, 111, 116]) (x.t 2) (.int (10) (x.t 3))] 2 (.mk #[115, 112, 111, 116]) (τ 5) (.int (10) (x.t 3)),
  doldUse σ 3 9 0 #[ent P (.mk #[99, 101, 108, 108, 115]) (x.t 1) (.ref (σ 1 + 417)), ent P (.mk #[115, 112, 111, 116]) (x.t 2) (.int (10) (x.t 3))] 2 (.mk #[115, 112, 111, 116]) (τ 5) (.int (11) (τ 8)),
  ditemUse σ 3 11 0 #[ent P (.mk #[99, 101, 108, 108, 115]) (x.t 1) (.ref (σ 1 + 417)), ent P (.mk #[115, 112, 111, 116]) (x.t 2) (.int (11) (τ 8))] 2 (.mk #[99, 101, 108, 108, 115]) (τ 10) (.ref (σ 1 + 417)),
  lenUse σ τ 3 12 1 (x.a 0) (x.n 100),
  cmpUse "int.__lt__" 3 14 (.int (10) (x.t 3)) (.int (((x.a 0)).size : Int) (τ 13)) false,
  cmpUse "int.__lt__" 3 16 (.int (10) (x.t 3)) (.int (6) (τ 15)) false]
structure kSn10x3_facts (P : Params) (σ τ : Nat → Nat) (x : Vals) : Prop where
  f0 : ((x.a 0)).size ≤ 60
  f1 : decide (((10) : Int) < ((x.a 0).size : Int)) = false
noncomputable def kSn10x3 : Seg := ⟨2, fun P T σ x => .code (.call (.ref 403) ⟨[.ref (σ 0 + 417), .int (3) (x.t 0)], []⟩), kSn10x3_ins, [0, 1], kSn10x3_outs, fun P T σ τ x => .res (.ok (.ret (.int (1) (τ 16)))), 1, 17, 84, 88, fun _ => 103, fun _ => kSn10x3_sc, kSn10x3_us⟩

section
variable {F : Fix} {σ τ : Nat → Nat} {lim : Nat} {us : List Use} {K : Addr → Option Obj} {dr : Drawn} {os : OsState} {m₀ i₀ : Nat}
-- DEPS kSn10x3 [kLt]
theorem kSn10x3_us_ok {x : Vals} (hkLt : kLt.Run F.kt) (H : F.Ok) (O : VOk (F.vc σ τ 88 (kSn10x3_us F.w.params (F.kt F.w.params) σ τ x) K dr os m₀ i₀)) (hf : kSn10x3_facts F.w.params σ τ x) : UsesOk (F.vc σ τ 88 (kSn10x3_us F.w.params (F.kt F.w.params) σ τ x) K dr os m₀ i₀) := uses_all (
  all_cons (ditem_use O _ _ _ _ _ (by unfold AllStr; kernel_rfl) (by kernel_rfl)) <|
  all_cons (ditem_use O _ _ _ _ _ (by unfold AllStr; kernel_rfl) (by kernel_rfl)) <|
  all_cons (dold_use O _ _ _ _ _ _ (by unfold AllStr; kernel_rfl) (Nat.le_of_ble_eq_true (by kernel_rfl)) (by kernel_rfl)) <|
  all_cons (ditem_use O _ _ _ _ _ (by unfold AllStr; kernel_rfl) (by kernel_rfl)) <|
  all_cons (len_use O _ _ _ hf.f0) <|
  all_cons (cmp_use hkLt H O (Nat.le_of_ble_eq_true rfl) _ _ (vals [(x.t 3), (τ 13)] [] [(10), ((x.a 0).size : Int)] [] [] [] [] [] [] [] []) (Prod.ext hf.f1 rfl)) <|
  all_cons (cmp_use hkLt H O (Nat.le_of_ble_eq_true rfl) _ _ (vals [(x.t 3), (τ 15)] [] [(10), (6)] [] [] [] [] [] [] [] []) (Prod.ext (by kernel_rfl) rfl)) <|
  all_nil)
theorem kSn10x3_ok (hkSn10x3 : kSn10x3.Run F.kt) (hkLt : kLt.Run F.kt) (H : F.Ok) (O : VOk (F.vc σ τ lim us K dr os m₀ i₀)) (hlim : lim ≤ kSn10x3.n0) (m i : Nat) {js : List Nat} (hnd : js.Nodup) (hL : js.length = kSn10x3.L) {x : Vals} (hf : kSn10x3_facts F.w.params (Seg.σ' σ js m) (Seg.τ' τ i) x) : UseOk (F.vc σ τ lim us K dr os m₀ i₀) (kSn10x3.use F.w.params (F.kt F.w.params) σ τ m i js x) :=
  Seg.useOk hkSn10x3 H O hnd hL rfl (by decide) (by decide) hlim ⟨_, rfl⟩ ⟨_, rfl⟩ fun K' O' => kSn10x3_us_ok (x := x) (hkLt := hkLt) (H := H) (O := O') (hf := hf)
end

/-! kSn11x2: 102 steps, 102 in the other world; 4 t, 0 s, 0 i, 0 b, 0 v, 0 r, 0 e, 1 a -/
noncomputable def kSn11x2_sc : List Nat := [0, 3, 3, 3, 3, 3, 1, 1, 1, 1, 3, 3, 3, 1, 1, 2, 0, 1, 1, 3, 3, 0, 0, 3, 1, 1, 1, 4, 5, 6, 3, 0, 0, 0, 0, 0, 0, 0, 0, 7, 3, 3, 0]
noncomputable def kSn11x2_ins (P : Params) (σ : Nat → Nat) (x : Vals) : List Obj := [
  dO #[ent P (.mk #[99, 101, 108, 108, 115]) (x.t 1) (.ref (σ 1 + 417)), ent P (.mk #[115, 112, 111, 116]) (x.t 2) (.int (11) (x.t 3))] 2,
  lO (x.a 0) (x.n 100)]
noncomputable def kSn11x2_outs (P : Params) (σ τ : Nat → Nat) (x : Vals) : List Obj := [
  dO #[ent P (.mk #[99, 101, 108, 108, 115]) (x.t 1) (.ref (σ 1 + 417)), ent P (.mk #[115, 112, 111, 116]) (x.t 2) (.int (12) (τ 8))] 2,
  lO (x.a 0) (x.n 100)]
noncomputable def kSn11x2_us (P : Params) (T : KT) (σ τ : Nat → Nat) (x : Vals) : List Use := [
  ditemUse σ 3 3 0 #[ent P (.mk #[99, 101, 108, 108, 115]) (x.t 1) (.ref (σ 1 + 417)), ent P (.mk #[115, 112, 111, 116]) (x.t 2) (.int (11) (x.t 3))] 2 (.mk #[115, 112, 111, 116]) (τ 2) (.int (11) (x.t 3)),
  ditemUse σ 3 6 0 #[ent P (.mk #[99, 101, 108, 108, 115]) (x.t 1) (.ref (σ 1 + 417)), ent P (.mk #[115, 112, 111, 116]) (x.t 2) (.int (11) (x.t 3))] 2 (.mk #[115, 112, 111, 116]) (τ 5) (.int (11) (x.t 3)),
  doldUse σ 3 9 0 #[ent P (.mk #[99, 101, 108, 108, 115]) (x.t 1) (.ref (σ 1 + 417)), ent P (.mk #[115, 112, 111, 116]) (x.t 2) (.int (11) (x.t 3))] 2 (.mk #[115, 112, 111, 116]) (τ 5) (.int (12) (τ 8)),
  ditemUse σ 3 11 0 #[ent P (.mk #[99, 101, 108, 108, 115]) (x.t 1) (.ref (σ 1 + 417)), ent P (.mk #[115, 112, 111, 116]) (x.t 2) (.int (12) (τ 8))] 2 (.mk #[99, 101, 108, 108, 115]) (τ 10) (.ref (σ 1 + 417)),
  lenUse σ τ 3 12 1 (x.a 0) (x.n 100),
  cmpUse "int.__lt__" 3 14 (.int (11) (x.t 3)) (.int (((x.a 0)).size : Int) (τ 13)) false,
  cmpUse "int.__lt__" 3 16 (.int (11) (x.t 3)) (.int (6) (τ 15)) false]
structure kSn11x2_facts (P : Params) (σ τ : Nat → Nat) (x : Vals) : Prop where
  f0 : ((x.a 0)).size ≤ 60
  f1 : decide (((11) : Int) < ((x.a 0).size : Int)) = false
noncomputable def kSn11x2 : Seg := ⟨2, fun P T σ x => .code (.call (.ref 403) ⟨[.ref (σ 0 + 417), .int (2) (x.t 0)], []⟩), kSn11x2_ins, [0, 1], kSn11x2_outs, fun P T σ τ x => .res (.ok (.ret (.int (1) (τ 16)))), 1, 17, 84, 88, fun _ => 103, fun _ => kSn11x2_sc, kSn11x2_us⟩

section
variable {F : Fix} {σ τ : Nat → Nat} {lim : Nat} {us : List Use} {K : Addr → Option Obj} {dr : Drawn} {os : OsState} {m₀ i₀ : Nat}
-- DEPS kSn11x2 [kLt]
theorem kSn11x2_us_ok {x : Vals} (hkLt : kLt.Run F.kt) (H : F.Ok) (O : VOk (F.vc σ τ 88 (kSn11x2_us F.w.params (F.kt F.w.params) σ τ x) K dr os m₀ i₀)) (hf : kSn11x2_facts F.w.params σ τ x) : UsesOk (F.vc σ τ 88 (kSn11x2_us F.w.params (F.kt F.w.params) σ τ x) K dr os m₀ i₀) := uses_all (
  all_cons (ditem_use O _ _ _ _ _ (by unfold AllStr; kernel_rfl) (by kernel_rfl)) <|
  all_cons (ditem_use O _ _ _ _ _ (by unfold AllStr; kernel_rfl) (by kernel_rfl)) <|
  all_cons (dold_use O _ _ _ _ _ _ (by unfold AllStr; kernel_rfl) (Nat.le_of_ble_eq_true (by kernel_rfl)) (by kernel_rfl)) <|
  all_cons (ditem_use O _ _ _ _ _ (by unfold AllStr; kernel_rfl) (by kernel_rfl)) <|
  all_cons (len_use O _ _ _ hf.f0) <|
  all_cons (cmp_use hkLt H O (Nat.le_of_ble_eq_true rfl) _ _ (vals [(x.t 3), (τ 13)] [] [(11), ((x.a 0).size : Int)] [] [] [] [] [] [] [] []) (Prod.ext hf.f1 rfl)) <|
  all_cons (cmp_use hkLt H O (Nat.le_of_ble_eq_true rfl) _ _ (vals [(x.t 3), (τ 15)] [] [(11), (6)] [] [] [] [] [] [] [] []) (Prod.ext (by kernel_rfl) rfl)) <|
  all_nil)
theorem kSn11x2_ok (hkSn11x2 : kSn11x2.Run F.kt) (hkLt : kLt.Run F.kt) (H : F.Ok) (O : VOk (F.vc σ τ lim us K dr os m₀ i₀)) (hlim : lim ≤ kSn11x2.n0) (m i : Nat) {js : List Nat} (hnd : js.Nodup) (hL : js.length = kSn11x2.L) {x : Vals} (hf : kSn11x2_facts F.w.params (Seg.σ' σ js m) (Seg.τ' τ i) x) : UseOk (F.vc σ τ lim us K dr os m₀ i₀) (kSn11x2.use F.w.params (F.kt F.w.params) σ τ m i js x) :=
  Seg.useOk hkSn11x2 H O hnd hL rfl (by decide) (by decide) hlim ⟨_, rfl⟩ ⟨_, rfl⟩ fun K' O' => kSn11x2_us_ok (x := x) (hkLt := hkLt) (H := H) (O := O') (hf := hf)
end

/-! kSn12x2: 102 steps, 102 in the other world; 4 t, 0 s, 0 i, 0 b, 0 v, 0 r, 0 e, 1 a -/
noncomputable def kSn12x2_sc : List Nat := [0, 3, 3, 3, 3, 3, 1, 1, 1, 1, 3, 3, 3, 1, 1, 2, 0, 1, 1, 3, 3, 0, 0, 3, 1, 1, 1, 4, 5, 6, 3, 0, 0, 0, 0, 0, 0, 0, 0, 7, 3, 3, 0]
noncomputable def kSn12x2_ins (P : Params) (σ : Nat → Nat) (x : Vals) : List Obj := [
  dO #[ent P (.mk #[99, 101, 108, 108, 115]) (x.t 1) (.ref (σ 1 + 417)), ent P (.mk #[115, 112, 111, 116]) (x.t 2) (.int (12) (x.t 3))] 2,
  lO (x.a 0) (x.n 100)]
noncomputable def kSn12x2_outs (P : Params) (σ τ : Nat → Nat) (x : Vals) : List Obj := [
  dO #[ent P (.mk #[99, 101, 108, 108, 115]) (x.t 1) (.ref (σ 1 + 417)), ent P (.mk #[115, 112, 111, 116]) (x.t 2) (.int (13) (τ 8))] 2,
  lO (x.a 0) (x.n 100)]
noncomputable def kSn12x2_us (P : Params) (T : KT) (σ τ : Nat → Nat) (x : Vals) : List Use := [
  ditemUse σ 3 3 0 #[ent P (.mk #[99, 101, 108, 108, 115]) (x.t 1) (.ref (σ 1 + 417)), ent P (.mk #[115, 112, 111, 116]) (x.t 2) (.int (12) (x.t 3))] 2 (.mk #[115, 112, 111, 116]) (τ 2) (.int (12) (x.t 3)),
  ditemUse σ 3 6 0 #[ent P (.mk #[99, 101, 108, 108, 115]) (x.t 1) (.ref (σ 1 + 417)), ent P (.mk #[115, 112, 111, 116]) (x.t 2) (.int (12) (x.t 3))] 2 (.mk #[115, 112, 111, 116]) (τ 5) (.int (12) (x.t 3)),
  doldUse σ 3 9 0 #[ent P (.mk #[99, 101, 108, 108, 115]) (x.t 1) (.ref (σ 1 + 417)), ent P (.mk #[115, 112, 111, 116]) (x.t 2) (.int (12) (x.t 3))] 2 (.mk #[115, 112, 111, 116]) (τ 5) (.int (13) (τ 8)),
  ditemUse σ 3 11 0 #[ent P (.mk #[99, 101, 108, 108, 115]) (x.t 1) (.ref (σ 1 + 417)), ent P (.mk #[115, 112, 111, 116]) (x.t 2) (.int (13) (τ 8))] 2 (.mk #[99, 101, 108, 108, 115]) (τ 10) (.ref (σ 1 + 417)),
  lenUse σ τ 3 12 1 (x.a 0) (x.n 100),
  cmpUse "int.__lt__" 3 14 (.int (12) (x.t 3)) (.int (((x.a 0)).size : Int) (τ 13)) false,
  cmpUse "int.__lt__" 3 16 (.int (12) (x.t 3)) (.int (6) (τ 15)) false]
structure kSn12x2_facts (P : Params) (σ τ : Nat → Nat) (x : Vals) : Prop where
  f0 : ((x.a 0)).size ≤ 60
  f1 : decide (((12) : Int) < ((x.a 0).size : Int)) = false
noncomputable def kSn12x2 : Seg := ⟨2, fun P T σ x => .code (.call (.ref 403) ⟨[.ref (σ 0 + 417), .int (2) (x.t 0)], []⟩), kSn12x2_ins, [0, 1], kSn12x2_outs, fun P T σ τ x => .res (.ok (.ret (.int (0) (τ 16)))), 1, 17, 84, 88, fun _ => 103, fun _ => kSn12x2_sc, kSn12x2_us⟩

section
variable {F : Fix} {σ τ : Nat → Nat} {lim : Nat} {us : List Use} {K : Addr → Option Obj} {dr : Drawn} {os : OsState} {m₀ i₀ : Nat}
-- DEPS kSn12x2 [kLt]
theorem kSn12x2_us_ok {x : Vals} (hkLt : kLt.Run F.kt) (H : F.Ok) (O : VOk (F.vc σ τ 88 (kSn12x2_us F.w.params (F.kt F.w.params) σ τ x) K dr os m₀ i₀)) (hf : kSn12x2_facts F.w.params σ τ x) : UsesOk (F.vc σ τ 88 (kSn12x2_us F.w.params (F.kt F.w.params) σ τ x) K dr os m₀ i₀) := uses_all (
  all_cons (ditem_use O _ _ _ _ _ (by unfold AllStr; kernel_rfl) (by kernel_rfl)) <|
  all_cons (ditem_use O _ _ _ _ _ (by unfold AllStr; kernel_rfl) (by kernel_rfl)) <|
  all_cons (dold_use O _ _ _ _ _ _ (by unfold AllStr; kernel_rfl) (Nat.le_of_ble_eq_true (by kernel_rfl)) (by kernel_rfl)) <|
  all_cons (ditem_use O _ _ _ _ _ (by unfold AllStr; kernel_rfl) (by kernel_rfl)) <|
  all_cons (len_use O _ _ _ hf.f0) <|
  all_cons (cmp_use hkLt H O (Nat.le_of_ble_eq_true rfl) _ _ (vals [(x.t 3), (τ 13)] [] [(12), ((x.a 0).size : Int)] [] [] [] [] [] [] [] []) (Prod.ext hf.f1 rfl)) <|
  all_cons (cmp_use hkLt H O (Nat.le_of_ble_eq_true rfl) _ _ (vals [(x.t 3), (τ 15)] [] [(12), (6)] [] [] [] [] [] [] [] []) (Prod.ext (by kernel_rfl) rfl)) <|
  all_nil)
theorem kSn12x2_ok (hkSn12x2 : kSn12x2.Run F.kt) (hkLt : kLt.Run F.kt) (H : F.Ok) (O : VOk (F.vc σ τ lim us K dr os m₀ i₀)) (hlim : lim ≤ kSn12x2.n0) (m i : Nat) {js : List Nat} (hnd : js.Nodup) (hL : js.length = kSn12x2.L) {x : Vals} (hf : kSn12x2_facts F.w.params (Seg.σ' σ js m) (Seg.τ' τ i) x) : UseOk (F.vc σ τ lim us K dr os m₀ i₀) (kSn12x2.use F.w.params (F.kt F.w.params) σ τ m i js x) :=
  Seg.useOk hkSn12x2 H O hnd hL rfl (by decide) (by decide) hlim ⟨_, rfl⟩ ⟨_, rfl⟩ fun K' O' => kSn12x2_us_ok (x := x) (hkLt := hkLt) (H := H) (O := O') (hf := hf)
end

/-! kSn13x3: 102 steps, 102 in the other world; 4 t, 0 s, 0 i, 0 b, 0 v, 0 r, 0 e, 1 a -/
noncomputable def kSn13x3_sc : List Nat := [0, 3, 3, 3, 3, 3, 1, 1, 1, 1, 3, 3, 3, 1, 1, 2, 0, 1, 1, 3, 3, 0, 0, 3, 1, 1, 1, 4, 5, 6, 3, 0, 0, 0, 0, 0, 0, 0, 0, 7, 3, 3, 0]
noncomputable def kSn13x3_ins (P : Params) (σ : Nat → Nat) (x : Vals) : List Obj := [
  dO #[ent P (.mk #[99, 101, 108, 108, 115]) (x.t 1) (.ref (σ 1 + 417)), ent P (.mk #[115, 112, 111, 116]) (x.t 2) (.int (13) (x.t 3))] 2,
  lO (x.a 0) (x.n 100)]
noncomputable def kSn13x3_outs (P : Params) (σ τ : Nat → Nat) (x : Vals) : List Obj := [
  dO #[ent P (.mk #[99, 101, 108, 108, 115]) (x.t 1) (.ref (σ 1 + 417)), ent P (.mk #[115, 112, 111, 116]) (x.t 2) (.int (14) (τ 8))] 2,
  lO (x.a 0) (x.n 100)]
noncomputable def kSn13x3_us (P : Params) (T : KT) (σ τ : Nat → Nat) (x : Vals) : List Use := [
  ditemUse σ 3 3 0 #[ent P (.mk #[99, 101, 108, 108, 115]) (x.t 1) (.ref (σ 1 + 417)), ent P (.mk #[115, 112, 111, 116]) (x.t 2) (.int (13) (x.t 3))] 2 (.mk #[115, 112, 111, 116]) (τ 2) (.int (13) (x.t 3)),
  ditemUse σ 3 6 0 #[ent P (.mk #[99, 101, 108, 108, 115]) (x.t 1) (.ref (σ 1 + 417)), ent P (.mk #[115, 112, 111, 116]) (x.t 2) (.int (13) (x.t 3))] 2 (.mk #[115, 112, 111, 116]) (τ 5) (.int (13) (x.t 3)),
  doldUse σ 3 9 0 #[ent P (.mk #[99, 101, 108, 108, 115]) (x.t 1) (.ref (σ 1 + 417)), ent P (.mk #[115, 112, 111, 116]) (x.t 2) (.int (13) (x.t 3))] 2 (.mk #[115, 112, 111, 116]) (τ 5) (.int (14) (τ 8)),
  ditemUse σ 3 11 0 #[ent P (.mk #[99, 101, 108, 108, 115]) (x.t 1) (.ref (σ 1 + 417)), ent P (.mk #[115, 112, 111, 116]) (x.t 2) (.int (14) (τ 8))] 2 (.mk #[99, 101, 108, 108, 115]) (τ 10) (.ref (σ 1 + 417)),
  lenUse σ τ 3 12 1 (x.a 0) (x.n 100),
  cmpUse "int.__lt__" 3 14 (.int (13) (x.t 3)) (.int (((x.a 0)).size : Int) (τ 13)) false,
  cmpUse "int.__lt__" 3 16 (.int (13) (x.t 3)) (.int (6) (τ 15)) false]
structure kSn13x3_facts (P : Params) (σ τ : Nat → Nat) (x : Vals) : Prop where
  f0 : ((x.a 0)).size ≤ 60
  f1 : decide (((13) : Int) < ((x.a 0).size : Int)) = false
noncomputable def kSn13x3 : Seg := ⟨2, fun P T σ x => .code (.call (.ref 403) ⟨[.ref (σ 0 + 417), .int (3) (x.t 0)], []⟩), kSn13x3_ins, [0, 1], kSn13x3_outs, fun P T σ τ x => .res (.ok (.ret (.int (1) (τ 16)))), 1, 17, 84, 88, fun _ => 103, fun _ => kSn13x3_sc, kSn13x3_us⟩

section
variable {F : Fix} {σ τ : Nat → Nat} {lim : Nat} {us : List Use} {K : Addr → Option Obj} {dr : Drawn} {os : OsState} {m₀ i₀ : Nat}
-- DEPS kSn13x3 [kLt]
theorem kSn13x3_us_ok {x : Vals} (hkLt : kLt.Run F.kt) (H : F.Ok) (O : VOk (F.vc σ τ 88 (kSn13x3_us F.w.params (F.kt F.w.params) σ τ x) K dr os m₀ i₀)) (hf : kSn13x3_facts F.w.params σ τ x) : UsesOk (F.vc σ τ 88 (kSn13x3_us F.w.params (F.kt F.w.params) σ τ x) K dr os m₀ i₀) := uses_all (
  all_cons (ditem_use O _ _ _ _ _ (by unfold AllStr; kernel_rfl) (by kernel_rfl)) <|
  all_cons (ditem_use O _ _ _ _ _ (by unfold AllStr; kernel_rfl) (by kernel_rfl)) <|
  all_cons (dold_use O _ _ _ _ _ _ (by unfold AllStr; kernel_rfl) (Nat.le_of_ble_eq_true (by kernel_rfl)) (by kernel_rfl)) <|
  all_cons (ditem_use O _ _ _ _ _ (by unfold AllStr; kernel_rfl) (by kernel_rfl)) <|
  all_cons (len_use O _ _ _ hf.f0) <|
  all_cons (cmp_use hkLt H O (Nat.le_of_ble_eq_true rfl) _ _ (vals [(x.t 3), (τ 13)] [] [(13), ((x.a 0).size : Int)] [] [] [] [] [] [] [] []) (Prod.ext hf.f1 rfl)) <|
  all_cons (cmp_use hkLt H O (Nat.le_of_ble_eq_true rfl) _ _ (vals [(x.t 3), (τ 15)] [] [(13), (6)] [] [] [] [] [] [] [] []) (Prod.ext (by kernel_rfl) rfl)) <|
  all_nil)
theorem kSn13x3_ok (hkSn13x3 : kSn13x3.Run F.kt) (hkLt : kLt.Run F.kt) (H : F.Ok) (O : VOk (F.vc σ τ lim us K dr os m₀ i₀)) (hlim : lim ≤ kSn13x3.n0) (m i : Nat) {js : List Nat} (hnd : js.Nodup) (hL : js.length = kSn13x3.L) {x : Vals} (hf : kSn13x3_facts F.w.params (Seg.σ' σ js m) (Seg.τ' τ i) x) : UseOk (F.vc σ τ lim us K dr os m₀ i₀) (kSn13x3.use F.w.params (F.kt F.w.params) σ τ m i js x) :=
  Seg.useOk hkSn13x3 H O hnd hL rfl (by decide) (by decide) hlim ⟨_, rfl⟩ ⟨_, rfl⟩ fun K' O' => kSn13x3_us_ok (x := x) (hkLt := hkLt) (H := H) (O := O') (hf := hf)
end

/-! kSn14x3: 102 steps, 102 in the other world; 4 t, 0 s, 0 i, 0 b, 0 v, 0 r, 0 e, 1 a -/
noncomputable def kSn14x3_sc : List Nat := [0, 3, 3, 3, 3, 3, 1, 1, 1, 1, 3, 3, 3, 1, 1, 2, 0, 1, 1, 3, 3, 0, 0, 3, 1, 1, 1, 4, 5, 6, 3, 0, 0, 0, 0, 0, 0, 0, 0, 7, 3, 3, 0]
noncomputable def kSn14x3_ins (P : Params) (σ : Nat → Nat) (x : Vals) : List Obj := [
  dO #[ent P (.mk #[99, 101, 108, 108, 115]) (x.t 1) (.ref (σ 1 + 417)), ent P (.mk #[115, 112, 111, 116]) (x.t 2) (.int (14) (x.t 3))] 2,
  lO (x.a 0) (x.n 100)]
noncomputable def kSn14x3_outs (P : Params) (σ τ : Nat → Nat) (x : Vals) : List Obj := [
  dO #[ent P (.mk #[99, 101, 108, 108, 115]) (x.t 1) (.ref (σ 1 + 417)), ent P (.mk #[115, 112, 111, 116]) (x.t 2) (.int (15) (τ 8))] 2,
  lO (x.a 0) (x.n 100)]
noncomputable def kSn14x3_us (P : Params) (T : KT) (σ τ : Nat → Nat) (x : Vals) : List Use := [
  ditemUse σ 3 3 0 #[ent P (.mk #[99, 101, 108, 108, 115]) (x.t 1) (.ref (σ 1 + 417)), ent P (.mk #[115, 112, 111, 116]) (x.t 2) (.int (14) (x.t 3))] 2 (.mk #[115, 112, 111, 116]) (τ 2) (.int (14) (x.t 3)),
  ditemUse σ 3 6 0 #[ent P (.mk #[99, 101, 108, 108, 115]) (x.t 1) (.ref (σ 1 + 417)), ent P (.mk #[115, 112, 111, 116]) (x.t 2) (.int (14) (x.t 3))] 2 (.mk #[115, 112, 111, 116]) (τ 5) (.int (14) (x.t 3)),
  doldUse σ 3 9 0 #[ent P (.mk #[99, 101, 108, 108, 115]) (x.t 1) (.ref (σ 1 + 417)), ent P (.mk #[115, 112, 111, 116]) (x.t 2) (.int (14) (x.t 3))] 2 (.mk #[115, 112, 111, 116]) (τ 5) (.int (15) (τ 8)),
  ditemUse σ 3 11 0 #[ent P (.mk #[99, 101, 108, 108, 115]) (x.t 1) (.ref (σ 1 + 417)), ent P (.mk #[115, 112, 111, 116]) (x.t 2) (.int (15) (τ 8))] 2 (.mk #[99, 101, 108, 108, 115]) (τ 10) (.ref (σ 1 + 417)),
  lenUse σ τ 3 12 1 (x.a 0) (x.n 100),
  cmpUse "int.__lt__" 3 14 (.int (14) (x.t 3)) (.int (((x.a 0)).size : Int) (τ 13)) false,
  cmpUse "int.__lt__" 3 16 (.int (14) (x.t 3)) (.int (6) (τ 15)) false]
structure kSn14x3_facts (P : Params) (σ τ : Nat → Nat) (x : Vals) : Prop where
  f0 : ((x.a 0)).size ≤ 60
  f1 : decide (((14) : Int) < ((x.a 0).size : Int)) = false
noncomputable def kSn14x3 : Seg := ⟨2, fun P T σ x => .code (.call (.ref 403) ⟨[.ref (σ 0 + 417), .int (3) (x.t 0)], []⟩), kSn14x3_ins, [0, 1], kSn14x3_outs, fun P T σ τ x => .res (.ok (.ret (.int (2) (τ 16)))), 1, 17, 84, 88, fun _ => 103, fun _ => kSn14x3_sc, kSn14x3_us⟩

section
variable {F : Fix} {σ τ : Nat → Nat} {lim : Nat} {us : List Use} {K : Addr → Option Obj} {dr : Drawn} {os : OsState} {m₀ i₀ : Nat}
-- DEPS kSn14x3 [kLt]
theorem kSn14x3_us_ok {x : Vals} (hkLt : kLt.Run F.kt) (H : F.Ok) (O : VOk (F.vc σ τ 88 (kSn14x3_us F.w.params (F.kt F.w.params) σ τ x) K dr os m₀ i₀)) (hf : kSn14x3_facts F.w.params σ τ x) : UsesOk (F.vc σ τ 88 (kSn14x3_us F.w.params (F.kt F.w.params) σ τ x) K dr os m₀ i₀) := uses_all (
  all_cons (ditem_use O _ _ _ _ _ (by unfold AllStr; kernel_rfl) (by kernel_rfl)) <|
  all_cons (ditem_use O _ _ _ _ _ (by unfold AllStr; kernel_rfl) (by kernel_rfl)) <|
  all_cons (dold_use O _ _ _ _ _ _ (by unfold AllStr; kernel_rfl) (Nat.le_of_ble_eq_true (by kernel_rfl)) (by kernel_rfl)) <|
  all_cons (ditem_use O _ _ _ _ _ (by unfold AllStr; kernel_rfl) (by kernel_rfl)) <|
  all_cons (len_use O _ _ _ hf.f0) <|
  all_cons (cmp_use hkLt H O (Nat.le_of_ble_eq_true rfl) _ _ (vals [(x.t 3), (τ 13)] [] [(14), ((x.a 0).size : Int)] [] [] [] [] [] [] [] []) (Prod.ext hf.f1 rfl)) <|
  all_cons (cmp_use hkLt H O (Nat.le_of_ble_eq_true rfl) _ _ (vals [(x.t 3), (τ 15)] [] [(14), (6)] [] [] [] [] [] [] [] []) (Prod.ext (by kernel_rfl) rfl)) <|
  all_nil)
theorem kSn14x3_ok (hkSn14x3 : kSn14x3.Run F.kt) (hkLt : kLt.Run F.kt) (H : F.Ok) (O : VOk (F.vc σ τ lim us K dr os m₀ i₀)) (hlim : lim ≤ kSn14x3.n0) (m i : Nat) {js : List Nat} (hnd : js.Nodup) (hL : js.length = kSn14x3.L) {x : Vals} (hf : kSn14x3_facts F.w.params (Seg.σ' σ js m) (Seg.τ' τ i) x) : UseOk (F.vc σ τ lim us K dr os m₀ i₀) (kSn14x3.use F.w.params (F.kt F.w.params) σ τ m i js x) :=
  Seg.useOk hkSn14x3 H O hnd hL rfl (by decide) (by decide) hlim ⟨_, rfl⟩ ⟨_, rfl⟩ fun K' O' => kSn14x3_us_ok (x := x) (hkLt := hkLt) (H := H) (O := O') (hf := hf)
end

/-! kSn5x3: 113 steps, 113 in the other world; 4 t, 0 s, 0 i, 0 b, 0 v, 0 r, 0 e, 1 a -/
noncomputable def kSn5x3_sc : List Nat := [0, 3, 3, 3, 3, 3, 1, 1, 1, 1, 3, 3, 3, 1, 1, 2, 0, 1, 1, 3, 3, 0, 0, 3, 1, 1, 1, 4, 5, 6, 3, 0, 0, 0, 0, 0, 0, 0, 0, 7, 0, 3, 0, 0, 0, 0, 0, 0, 3, 0]
noncomputable def kSn5x3_ins (P : Params) (σ : Nat → Nat) (x : Vals) : List Obj := [
  dO #[ent P (.mk #[99, 101, 108, 108, 115]) (x.t 1) (.ref (σ 1 + 417)), ent P (.mk #[115, 112, 111, 116]) (x.t 2) (.int (5) (x.t 3))] 2,
  lO (x.a 0) (x.n 100)]
noncomputable def kSn5x3_outs (P : Params) (σ τ : Nat → Nat) (x : Vals) : List Obj := [
  dO #[ent P (.mk #[99, 101, 108, 108, 115]) (x.t 1) (.ref (σ 1 + 417)), ent P (.mk #[115, 112, 111, 116]) (x.t 2) (.int (6) (τ 8))] 2,
  lO (x.a 0) (x.n 100)]
noncomputable def kSn5x3_us (P : Params) (T : KT) (σ τ : Nat → Nat) (x : Vals) : List Use := [
  ditemUse σ 3 3 0 #[ent P (.mk #[99, 101, 108, 108, 115]) (x.t 1) (.ref (σ 1 + 417)), ent P (.mk #[115, 112, 111, 116]) (x.t 2) (.int (5) (x.t 3))] 2 (.mk #[115, 112, 111, 116]) (τ 2) (.int (5) (x.t 3)),
  ditemUse σ 3 6 0 #[ent P (.mk #[99, 101, 108, 108, 115]) (x.t 1) (.ref (σ 1 + 417)), ent P (.mk #[115, 112, 111, 116]) (x.t 2) (.int (5) (x.t 3))] 2 (.mk #[115, 112, 111, 116]) (τ 5) (.int (5) (x.t 3)),
  doldUse σ 3 9 0 #[ent P (.mk #[99, 101, 108, 108, 115]) (x.t 1) (.ref (σ 1 + 417)), ent P (.mk #[115, 112, 111, 116]) (x.t 2) (.int (5) (x.t 3))] 2 (.mk #[115, 112, 111, 116]) (τ 5) (.int (6) (τ 8)),
  ditemUse σ 3 11 0 #[ent P (.mk #[99, 101, 108, 108, 115]) (x.t 1) (.ref (σ 1 + 417)), ent P (.mk #[115, 112, 111, 116]) (x.t 2) (.int (6) (τ 8))] 2 (.mk #[99, 101, 108, 108, 115]) (τ 10) (.ref (σ 1 + 417)),
  lenUse σ τ 3 12 1 (x.a 0) (x.n 100),
  cmpUse "int.__lt__" 3 14 (.int (5) (x.t 3)) (.int (((x.a 0)).size : Int) (τ 13)) false,
  cmpUse "int.__lt__" 3 16 (.int (5) (x.t 3)) (.int (6) (τ 15)) true]
structure kSn5x3_facts (P : Params) (σ τ : Nat → Nat) (x : Vals) : Prop where
  f0 : ((x.a 0)).size ≤ 60
  f1 : decide (((5) : Int) < ((x.a 0).size : Int)) = false
noncomputable def kSn5x3 : Seg := ⟨2, fun P T σ x => .code (.call (.ref 403) ⟨[.ref (σ 0 + 417), .int (3) (x.t 0)], []⟩), kSn5x3_ins, [0, 1], kSn5x3_outs, fun P T σ τ x => .res (.ok (.ret (.int (0) (τ 16)))), 1, 17, 84, 88, fun _ => 114, fun _ => kSn5x3_sc, kSn5x3_us⟩

section
variable {F : Fix} {σ τ : Nat → Nat} {lim : Nat} {us : List Use} {K : Addr → Option Obj} {dr : Drawn} {os : OsState} {m₀ i₀ : Nat}
-- DEPS kSn5x3 [kLt]
theorem kSn5x3_us_ok {x : Vals} (hkLt : kLt.Run F.kt) (H : F.Ok) (O : VOk (F.vc σ τ 88 (kSn5x3_us F.w.params (F.kt F.w.params) σ τ x) K dr os m₀ i₀)) (hf : kSn5x3_facts F.w.params σ τ x) : UsesOk (F.vc σ τ 88 (kSn5x3_us F.w.params (F.kt F.w.params) σ τ x) K dr os m₀ i₀) := uses_all (
  all_cons (ditem_use O _ _ _ _ _ (by unfold AllStr; kernel_rfl) (by kernel_rfl)) <|
  all_cons (ditem_use O _ _ _ _ _ (by unfold AllStr; kernel_rfl) (by kernel_rfl)) <|
  all_cons (dold_use O _ _ _ _ _ _ (by unfold AllStr; kernel_rfl) (Nat.le_of_ble_eq_true (by kernel_rfl)) (by kernel_rfl)) <|
  all_cons (ditem_use O _ _ _ _ _ (by unfold AllStr; kernel_rfl) (by kernel_rfl)) <|
  all_cons (len_use O _ _ _ hf.f0) <|
  all_cons (cmp_use hkLt H O (Nat.le_of_ble_eq_true rfl) _ _ (vals [(x.t 3), (τ 13)] [] [(5), ((x.a 0).size : Int)] [] [] [] [] [] [] [] []) (Prod.ext hf.f1 rfl)) <|
  all_cons (cmp_use hkLt H O (Nat.le_of_ble_eq_true rfl) _ _ (vals [(x.t 3), (τ 15)] [] [(5), (6)] [] [] [] [] [] [] [] []) (Prod.ext (by kernel_rfl) rfl)) <|
  all_nil)
theorem kSn5x3_ok (hkSn5x3 : kSn5x3.Run F.kt) (hkLt : kLt.Run F.kt) (H : F.Ok) (O : VOk (F.vc σ τ lim us K dr os m₀ i₀)) (hlim : lim ≤ kSn5x3.n0) (m i : Nat) {js : List Nat} (hnd : js.Nodup) (hL : js.length = kSn5x3.L) {x : Vals} (hf : kSn5x3_facts F.w.params (Seg.σ' σ js m) (Seg.τ' τ i) x) : UseOk (F.vc σ τ lim us K dr os m₀ i₀) (kSn5x3.use F.w.params (F.kt F.w.params) σ τ m i js x) :=
  Seg.useOk hkSn5x3 H O hnd hL rfl (by decide) (by decide) hlim ⟨_, rfl⟩ ⟨_, rfl⟩ fun K' O' => kSn5x3_us_ok (x := x) (hkLt := hkLt) (H := H) (O := O') (hf := hf)
end

/-! kSn8x3: 102 steps, 102 in the other world; 4 t, 0 s, 0 i, 0 b, 0 v, 0 r, 0 e, 1 a -/
noncomputable def kSn8x3_sc : List Nat := [0, 3, 3, 3, 3, 3, 1, 1, 1, 1, 3, 3, 3, 1, 1, 2, 0, 1, 1, 3, 3, 0, 0, 3, 1, 1, 1, 4, 5, 6, 3, 0, 0, 0, 0, 0, 0, 0, 0, 7, 3, 3, 0]
noncomputable def kSn8x3_ins (P : Params) (σ : Nat → Nat) (x : Vals) : List Obj := [
  dO #[ent P (.mk #[99, 101, 108, 108, 115]) (x.t 1) (.ref (σ 1 + 417)), ent P (.mk #[115, 112, 111, 116]) (x.t 2) (.int (8) (x.t 3))] 2,
  lO (x.a 0) (x.n 100)]
noncomputable def kSn8x3_outs (P : Params) (σ τ : Nat → Nat) (x : Vals) : List Obj := [
  dO #[ent P (.mk #[99, 101, 108, 108, 115]) (x.t 1) (.ref (σ 1 + 417)), ent P (.mk #[115, 112, 111, 116]) (x.t 2) (.int (9) (τ 8))] 2,
  lO (x.a 0) (x.n 100)]
noncomputable def kSn8x3_us (P : Params) (T : KT) (σ τ : Nat → Nat) (x : Vals) : List Use := [
  ditemUse σ 3 3 0 #[ent P (.mk #[99, 101, 108, 108, 115]) (x.t 1) (.ref (σ 1 + 417)), ent P (.mk #[115, 112, 111, 116]) (x.t 2) (.int (8) (x.t 3))] 2 (.mk #[115, 112, 111, 116]) (τ 2) (.int (8) (x.t 3)),
  ditemUse σ 3 6 0 #[ent P (.mk #[99, 101, 108, 108, 115]) (x.t 1) (.ref (σ 1 + 417)), ent P (.mk #[115, 112, 111, 116]) (x.t 2) (.int (8) (x.t 3))] 2 (.mk #[115, 112, 111, 116]) (τ 5) (.int (8) (x.t 3)),
  doldUse σ 3 9 0 #[ent P (.mk #[99, 101, 108, 108, 115]) (x.t 1) (.ref (σ 1 + 417)), ent P (.mk #[115, 112, 111, 116]) (x.t 2) (.int (8) (x.t 3))] 2 (.mk #[115, 112, 111, 116]) (τ 5) (.int (9) (τ 8)),
  ditemUse σ 3 11 0 #[ent P (.mk #[99, 101, 108, 108, 115]) (x.t 1) (.ref (σ 1 + 417)), ent P (.mk #[115, 112, 111, 116]) (x.t 2) (.int (9) (τ 8))] 2 (.mk #[99, 101, 108, 108, 115]) (τ 10) (.ref (σ 1 + 417)),
  lenUse σ τ 3 12 1 (x.a 0) (x.n 100),
  cmpUse "int.__lt__" 3 14 (.int (8) (x.t 3)) (.int (((x.a 0)).size : Int) (τ 13)) false,
  cmpUse "int.__lt__" 3 16 (.int (8) (x.t 3)) (.int (6) (τ 15)) false]
structure kSn8x3_facts (P : Params) (σ τ : Nat → Nat) (x : Vals) : Prop where
  f0 : ((x.a 0)).size ≤ 60
  f1 : decide (((8) : Int) < ((x.a 0).size : Int)) = false
noncomputable def kSn8x3 : Seg := ⟨2, fun P T σ x => .code (.call (.ref 403) ⟨[.ref (σ 0 + 417), .int (3) (x.t 0)], []⟩), kSn8x3_ins, [0, 1], kSn8x3_outs, fun P T σ τ x => .res (.ok (.ret (.int (2) (τ 16)))), 1, 17, 84, 88, fun _ => 103, fun _ => kSn8x3_sc, kSn8x3_us⟩

section
variable {F : Fix} {σ τ : Nat → Nat} {lim : Nat} {us : List Use} {K : Addr → Option Obj} {dr : Drawn} {os : OsState} {m₀ i₀ : Nat}
-- DEPS kSn8x3 [kLt]
theorem kSn8x3_us_ok {x : Vals} (hkLt : kLt.Run F.kt) (H : F.Ok) (O : VOk (F.vc σ τ 88 (kSn8x3_us F.w.params (F.kt F.w.params) σ τ x) K dr os m₀ i₀)) (hf : kSn8x3_facts F.w.params σ τ x) : UsesOk (F.vc σ τ 88 (kSn8x3_us F.w.params (F.kt F.w.params) σ τ x) K dr os m₀ i₀) := uses_all (
  all_cons (ditem_use O _ _ _ _ _ (by unfold AllStr; kernel_rfl) (by kernel_rfl)) <|
  all_cons (ditem_use O _ _ _ _ _ (by unfold AllStr; kernel_rfl) (by kernel_rfl)) <|
  all_cons (dold_use O _ _ _ _ _ _ (by unfold AllStr; kernel_rfl) (Nat.le_of_ble_eq_true (by kernel_rfl)) (by kernel_rfl)) <|
  all_cons (ditem_use O _ _ _ _ _ (by unfold AllStr; kernel_rfl) (by kernel_rfl)) <|
  all_cons (len_use O _ _ _ hf.f0) <|
  all_cons (cmp_use hkLt H O (Nat.le_of_ble_eq_true rfl) _ _ (vals [(x.t 3), (τ 13)] [] [(8), ((x.a 0).size : Int)] [] [] [] [] [] [] [] []) (Prod.ext hf.f1 rfl)) <|
  all_cons (cmp_use hkLt H O (Nat.le_of_ble_eq_true rfl) _ _ (vals [(x.t 3), (τ 15)] [] [(8), (6)] [] [] [] [] [] [] [] []) (Prod.ext (by kernel_rfl) rfl)) <|
  all_nil)
theorem kSn8x3_ok (hkSn8x3 : kSn8x3.Run F.kt) (hkLt : kLt.Run F.kt) (H : F.Ok) (O : VOk (F.vc σ τ lim us K dr os m₀ i₀)) (hlim : lim ≤ kSn8x3.n0) (m i : Nat) {js : List Nat} (hnd : js.Nodup) (hL : js.length = kSn8x3.L) {x : Vals} (hf : kSn8x3_facts F.w.params (Seg.σ' σ js m) (Seg.τ' τ i) x) : UseOk (F.vc σ τ lim us K dr os m₀ i₀) (kSn8x3.use F.w.params (F.kt F.w.params) σ τ m i js x) :=
  Seg.useOk hkSn8x3 H O hnd hL rfl (by decide) (by decide) hlim ⟨_, rfl⟩ ⟨_, rfl⟩ fun K' O' => kSn8x3_us_ok (x := x) (hkLt := hkLt) (H := H) (O := O') (hf := hf)
end

/-! kSn11x3: 102 steps, 102 in the other world; 4 t, 0 s, 0 i, 0 b, 0 v, 0 r, 0 e, 1 a -/
noncomputable def kSn11x3_sc : List Nat := [0, 3, 3, 3, 3, 3, 1, 1, 1, 1, 3, 3, 3, 1, 1, 2, 0, 1, 1, 3, 3, 0, 0, 3, 1, 1, 1, 4, 5, 6, 3, 0, 0, 0, 0, 0, 0, 0, 0, 7, 3, 3, 0]
noncomputable def kSn11x3_ins (P : Params) (σ : Nat → Nat) (x : Vals) : List Obj := [
  dO #[ent P (.mk #[99, 101, 108, 108, 115]) (x.t 1) (.ref (σ 1 + 417)), ent P (.mk #[115, 112, 111, 116]) (x.t 2) (.int (11) (x.t 3))] 2,
  lO (x.a 0) (x.n 100)]
noncomputable def kSn11x3_outs (P : Params) (σ τ : Nat → Nat) (x : Vals) : List Obj := [
  dO #[ent P (.mk #[99, 101, 108, 108, 115]) (x.t 1) (.ref (σ 1 + 417)), ent P (.mk #[115, 112, 111, 116]) (x.t 2) (.int (12) (τ 8))] 2,
  lO (x.a 0) (x.n 100)]
noncomputable def kSn11x3_us (P : Params) (T : KT) (σ τ : Nat → Nat) (x : Vals) : List Use := [
  ditemUse σ 3 3 0 #[ent P (.mk #[99, 101, 108, 108, 115]) (x.t 1) (.ref (σ 1 + 417)), ent P (.mk #[115, 112, 111, 116]) (x.t 2) (.int (11) (x.t 3))] 2 (.mk #[115, 112, 111, 116]) (τ 2) (.int (11) (x.t 3)),
  ditemUse σ 3 6 0 #[ent P (.mk #[99, 101, 108, 108, 115]) (x.t 1) (.ref (σ 1 + 417)), ent P (.mk #[115, 112, 111, 116]) (x.t 2) (.int (11) (x.t 3))] 2 (.mk #[115, 112, 111, 116]) (τ 5) (.int (11) (x.t 3)),
  doldUse σ 3 9 0 #[ent P (.mk #[99, 101, 108, 108, 115]) (x.t 1) (.ref (σ 1 + 417)), ent P (.mk #[115, 112, 111, 116]) (x.t 2) (.int (11) (x.t 3))] 2 (.mk #[115, 112, 111, 116]) (τ 5) (.int (12) (τ 8)),
  ditemUse σ 3 11 0 #[ent P (.mk #[99, 101, 108, 108, 115]) (x.t 1) (.ref (σ 1 + 417)), ent P (.mk #[115, 112, 111, 116]) (x.t 2) (.int (12) (τ 8))] 2 (.mk #[99, 101, 108, 108, 115]) (τ 10) (.ref (σ 1 + 417)),
  lenUse σ τ 3 12 1 (x.a 0) (x.n 100),
  cmpUse "int.__lt__" 3 14 (.int (11) (x.t 3)) (.int (((x.a 0)).size : Int) (τ 13)) false,
  cmpUse "int.__lt__" 3 16 (.int (11) (x.t 3)) (.int (6) (τ 15)) false]
structure kSn11x3_facts (P : Params) (σ τ : Nat → Nat) (x : Vals) : Prop where
  f0 : ((x.a 0)).size ≤ 60
  f1 : decide (((11) : Int) < ((x.a 0).size : Int)) = false
noncomputable def kSn11x3 : Seg := ⟨2, fun P T σ x => .code (.call (.ref 403) ⟨[.ref (σ 0 + 417), .int (3) (x.t 0)], []⟩), kSn11x3_ins, [0, 1], kSn11x3_outs, fun P T σ τ x => .res (.ok (.ret (.int (2) (τ 16)))), 1, 17, 84, 88, fun _ => 103, fun _ => kSn11x3_sc, kSn11x3_us⟩

section
variable {F : Fix} {σ τ : Nat → Nat} {lim : Nat} {us : List Use} {K : Addr → Option Obj} {dr : Drawn} {os : OsState} {m₀ i₀ : Nat}
-- DEPS kSn11x3 [kLt]
theorem kSn11x3_us_ok {x : Vals} (hkLt : kLt.Run F.kt) (H : F.Ok) (O : VOk (F.vc σ τ 88 (kSn11x3_us F.w.params (F.kt F.w.params) σ τ x) K dr os m₀ i₀)) (hf : kSn11x3_facts F.w.params σ τ x) : UsesOk (F.vc σ τ 88 (kSn11x3_us F.w.params (F.kt F.w.params) σ τ x) K dr os m₀ i₀) := uses_all (
  all_cons (ditem_use O _ _ _ _ _ (by unfold AllStr; kernel_rfl) (by kernel_rfl)) <|
  all_cons (ditem_use O _ _ _ _ _ (by unfold AllStr; kernel_rfl) (by kernel_rfl)) <|
  all_cons (dold_use O _ _ _ _ _ _ (by unfold AllStr; kernel_rfl) (Nat.le_of_ble_eq_true (by kernel_rfl)) (by kernel_rfl)) <|
  all_cons (ditem_use O _ _ _ _ _ (by unfold AllStr; kernel_rfl) (by kernel_rfl)) <|
  all_cons (len_use O _ _ _ hf.f0) <|
  all_cons (cmp_use hkLt H O (Nat.le_of_ble_eq_true rfl) _ _ (vals [(x.t 3), (τ 13)] [] [(11), ((x.a 0).size : Int)] [] [] [] [] [] [] [] []) (Prod.ext hf.f1 rfl)) <|
  all_cons (cmp_use hkLt H O (Nat.le_of_ble_eq_true rfl) _ _ (vals [(x.t 3), (τ 15)] [] [(11), (6)] [] [] [] [] [] [] [] []) (Prod.ext (by kernel_rfl) rfl)) <|
  all_nil)
theorem kSn11x3_ok (hkSn11x3 : kSn11x3.Run F.kt) (hkLt : kLt.Run F.kt) (H : F.Ok) (O : VOk (F.vc σ τ lim us K dr os m₀ i₀)) (hlim : lim ≤ kSn11x3.n0) (m i : Nat) {js : List Nat} (hnd : js.Nodup) (hL : js.length = kSn11x3.L) {x : Vals} (hf : kSn11x3_facts F.w.params (Seg.σ' σ js m) (Seg.τ' τ i) x) : UseOk (F.vc σ τ lim us K dr os m₀ i₀) (kSn11x3.use F.w.params (F.kt F.w.params) σ τ m i js x) :=
  Seg.useOk hkSn11x3 H O hnd hL rfl (by decide) (by decide) hlim ⟨_, rfl⟩ ⟨_, rfl⟩ fun K' O' => kSn11x3_us_ok (x := x) (hkLt := hkLt) (H := H) (O := O') (hf := hf)
end

end Mine
end
section
set_option maxRecDepth 100000
namespace Mine
open PySem PySem.W PySem.W.X
noncomputable def nCells : Str := .mk #[99, 101, 108, 108, 115]
noncomputable def nSpot : Str := .mk #[115, 112, 111, 116]
noncomputable def sandO (P : Params) (t0 t1 ts : Tok) (c : Addr) (s : Int) : Obj := dO #[ent P nCells t0 (.ref c), ent P nSpot t1 (.int s ts)] 2
/-- what a draw past the cells gives -/
noncomputable def svRest : List (Int × Int × Int) := [(0, 2, 1), (1, 4, 0), (2, 2, 0), (3, 2, 1), (4, 3, 1), (5, 2, 0), (6, 2, 0), (7, 3, 1), (8, 2, 0), (9, 2, 1), (10, 3, 1), (11, 2, 1), (12, 2, 0), (13, 3, 1), (14, 3, 2), (5, 3, 0), (8, 3, 2), (11, 3, 2)]
structure SvFact (cells : Array Value) (s many v : Int) : Prop where
  small : cells.size ≤ 60
  low : 0 ≤ s ∧ s < 60
  which : many = 2 ∨ many = 3 ∨ many = 4
  here : s < cells.size → ∃ c t, cells[s.toNat]? = some (.int c t) ∧ c.fmod many = v
  past : (cells.size : Int) ≤ s → (s, many, v) ∈ svRest
noncomputable def svUse (P : Params) (σ τ : Nat → Nat) (m i jd jc : Nat) (t0 t1 ts : Tok) (cells : Array Value) (n : Nat) (s many : Int) (tm : Tok) (v : Int) : Use :=
  ⟨.call (.ref 403) ⟨[.ref (σ jd + 417), .int many tm], []⟩, m, i, [(jd, sandO P t0 t1 ts (σ jc + 417) s), (jc, lO cells n)], .ok (.ret (.int v (τ (i + 16)))), [(jd, sandO P t0 t1 (τ (i + 8)) (σ jc + 417) (s + 1)), (jc, lO cells n)], 1, 17⟩
structure SvRuns (kt : Params → KT) : Prop where
  lt : kLt.Run kt
  v2 : kSv2.Run kt
  v3 : kSv3.Run kt
  v4 : kSv4.Run kt
  n0x2 : kSn0x2.Run kt
  n1x4 : kSn1x4.Run kt
  n2x2 : kSn2x2.Run kt
  n3x2 : kSn3x2.Run kt
  n4x3 : kSn4x3.Run kt
  n5x2 : kSn5x2.Run kt
  n6x2 : kSn6x2.Run kt
  n7x3 : kSn7x3.Run kt
  n8x2 : kSn8x2.Run kt
  n9x2 : kSn9x2.Run kt
  n10x3 : kSn10x3.Run kt
  n11x2 : kSn11x2.Run kt
  n12x2 : kSn12x2.Run kt
  n13x3 : kSn13x3.Run kt
  n14x3 : kSn14x3.Run kt
  n5x3 : kSn5x3.Run kt
  n8x3 : kSn8x3.Run kt
  n11x3 : kSn11x3.Run kt
section
variable {F : Fix} {σ τ : Nat → Nat} {lim : Nat} {us : List Use} {K : Addr → Option Obj} {dr : Drawn} {os : OsState} {m₀ i₀ : Nat}
/-- the draws, told once -/
theorem sv_use (h : SvRuns F.kt) (H : F.Ok) (O : VOk (F.vc σ τ lim us K dr os m₀ i₀)) (hlim : lim ≤ 84) (m i : Nat) {jd jc : Nat} (hne : jd ≠ jc) (t0 t1 ts : Tok) {cells : Array Value} (n : Nat) {s many : Int} (tm : Tok) {v : Int} (f : SvFact cells s many v) :
    UseOk (F.vc σ τ lim us K dr os m₀ i₀) (svUse F.w.params σ τ m i jd jc t0 t1 ts cells n s many tm v) := by
  have nd : [jd, jc].Nodup := by simp [hne]
  by_cases hs : s < cells.size
  · obtain ⟨c, t, hc, hv⟩ := f.here hs
    subst hv
    obtain e | e | e := f.which
    · subst e
      exact kSv2_ok (hkSv2 := h.v2) (hkLt := h.lt) (H := H) (O := O) (hlim := hlim) (m := m) (i := i) (js := [jd, jc]) (hnd := nd) (hL := rfl) (x := vals [tm, t0, t1, ts, t] [] [s, c] [] [] [] [cells] [] [n] [] [])
        (hf := ⟨f.small, decide_eq_true hs, ⟨f.low.1, by have := f.low.2; show s < 64; omega⟩, hc⟩)
    · subst e
      exact kSv3_ok (hkSv3 := h.v3) (hkLt := h.lt) (H := H) (O := O) (hlim := hlim) (m := m) (i := i) (js := [jd, jc]) (hnd := nd) (hL := rfl) (x := vals [tm, t0, t1, ts, t] [] [s, c] [] [] [] [cells] [] [n] [] [])
        (hf := ⟨f.small, decide_eq_true hs, ⟨f.low.1, by have := f.low.2; show s < 64; omega⟩, hc⟩)
    · subst e
      exact kSv4_ok (hkSv4 := h.v4) (hkLt := h.lt) (H := H) (O := O) (hlim := hlim) (m := m) (i := i) (js := [jd, jc]) (hnd := nd) (hL := rfl) (x := vals [tm, t0, t1, ts, t] [] [s, c] [] [] [] [cells] [] [n] [] [])
        (hf := ⟨f.small, decide_eq_true hs, ⟨f.low.1, by have := f.low.2; show s < 64; omega⟩, hc⟩)
  · have z := f.past (by omega)
    have hs' : ∀ k : Int, s = k → decide (k < (cells.size : Int)) = false := fun k e => decide_eq_false (by omega)
    simp only [svRest, List.mem_cons, Prod.mk.injEq, List.mem_nil_iff, or_false] at z
    rcases z with ⟨rfl, rfl, rfl⟩ | ⟨rfl, rfl, rfl⟩ | ⟨rfl, rfl, rfl⟩ | ⟨rfl, rfl, rfl⟩ | ⟨rfl, rfl, rfl⟩ | ⟨rfl, rfl, rfl⟩ | ⟨rfl, rfl, rfl⟩ | ⟨rfl, rfl, rfl⟩ | ⟨rfl, rfl, rfl⟩ | ⟨rfl, rfl, rfl⟩ | ⟨rfl, rfl, rfl⟩ | ⟨rfl, rfl, rfl⟩ | ⟨rfl, rfl, rfl⟩ | ⟨rfl, rfl, rfl⟩ | ⟨rfl, rfl, rfl⟩ | ⟨rfl, rfl, rfl⟩ | ⟨rfl, rfl, rfl⟩ | ⟨rfl, rfl, rfl⟩
    · exact kSn0x2_ok (hkSn0x2 := h.n0x2) (hkLt := h.lt) (H := H) (O := O) (hlim := hlim) (m := m) (i := i) (js := [jd, jc]) (hnd := nd) (hL := rfl) (x := vals [tm, t0, t1, ts] [] [] [] [] [] [cells] [] [n] [] []) (hf := ⟨f.small, hs' _ rfl⟩)
    · exact kSn1x4_ok (hkSn1x4 := h.n1x4) (hkLt := h.lt) (H := H) (O := O) (hlim := hlim) (m := m) (i := i) (js := [jd, jc]) (hnd := nd) (hL := rfl) (x := vals [tm, t0, t1, ts] [] [] [] [] [] [cells] [] [n] [] []) (hf := ⟨f.small, hs' _ rfl⟩)
    · exact kSn2x2_ok (hkSn2x2 := h.n2x2) (hkLt := h.lt) (H := H) (O := O) (hlim := hlim) (m := m) (i := i) (js := [jd, jc]) (hnd := nd) (hL := rfl) (x := vals [tm, t0, t1, ts] [] [] [] [] [] [cells] [] [n] [] []) (hf := ⟨f.small, hs' _ rfl⟩)
    · exact kSn3x2_ok (hkSn3x2 := h.n3x2) (hkLt := h.lt) (H := H) (O := O) (hlim := hlim) (m := m) (i := i) (js := [jd, jc]) (hnd := nd) (hL := rfl) (x := vals [tm, t0, t1, ts] [] [] [] [] [] [cells] [] [n] [] []) (hf := ⟨f.small, hs' _ rfl⟩)
    · exact kSn4x3_ok (hkSn4x3 := h.n4x3) (hkLt := h.lt) (H := H) (O := O) (hlim := hlim) (m := m) (i := i) (js := [jd, jc]) (hnd := nd) (hL := rfl) (x := vals [tm, t0, t1, ts] [] [] [] [] [] [cells] [] [n] [] []) (hf := ⟨f.small, hs' _ rfl⟩)
    · exact kSn5x2_ok (hkSn5x2 := h.n5x2) (hkLt := h.lt) (H := H) (O := O) (hlim := hlim) (m := m) (i := i) (js := [jd, jc]) (hnd := nd) (hL := rfl) (x := vals [tm, t0, t1, ts] [] [] [] [] [] [cells] [] [n] [] []) (hf := ⟨f.small, hs' _ rfl⟩)
    · exact kSn6x2_ok (hkSn6x2 := h.n6x2) (hkLt := h.lt) (H := H) (O := O) (hlim := hlim) (m := m) (i := i) (js := [jd, jc]) (hnd := nd) (hL := rfl) (x := vals [tm, t0, t1, ts] [] [] [] [] [] [cells] [] [n] [] []) (hf := ⟨f.small, hs' _ rfl⟩)
    · exact kSn7x3_ok (hkSn7x3 := h.n7x3) (hkLt := h.lt) (H := H) (O := O) (hlim := hlim) (m := m) (i := i) (js := [jd, jc]) (hnd := nd) (hL := rfl) (x := vals [tm, t0, t1, ts] [] [] [] [] [] [cells] [] [n] [] []) (hf := ⟨f.small, hs' _ rfl⟩)
    · exact kSn8x2_ok (hkSn8x2 := h.n8x2) (hkLt := h.lt) (H := H) (O := O) (hlim := hlim) (m := m) (i := i) (js := [jd, jc]) (hnd := nd) (hL := rfl) (x := vals [tm, t0, t1, ts] [] [] [] [] [] [cells] [] [n] [] []) (hf := ⟨f.small, hs' _ rfl⟩)
    · exact kSn9x2_ok (hkSn9x2 := h.n9x2) (hkLt := h.lt) (H := H) (O := O) (hlim := hlim) (m := m) (i := i) (js := [jd, jc]) (hnd := nd) (hL := rfl) (x := vals [tm, t0, t1, ts] [] [] [] [] [] [cells] [] [n] [] []) (hf := ⟨f.small, hs' _ rfl⟩)
    · exact kSn10x3_ok (hkSn10x3 := h.n10x3) (hkLt := h.lt) (H := H) (O := O) (hlim := hlim) (m := m) (i := i) (js := [jd, jc]) (hnd := nd) (hL := rfl) (x := vals [tm, t0, t1, ts] [] [] [] [] [] [cells] [] [n] [] []) (hf := ⟨f.small, hs' _ rfl⟩)
    · exact kSn11x2_ok (hkSn11x2 := h.n11x2) (hkLt := h.lt) (H := H) (O := O) (hlim := hlim) (m := m) (i := i) (js := [jd, jc]) (hnd := nd) (hL := rfl) (x := vals [tm, t0, t1, ts] [] [] [] [] [] [cells] [] [n] [] []) (hf := ⟨f.small, hs' _ rfl⟩)
    · exact kSn12x2_ok (hkSn12x2 := h.n12x2) (hkLt := h.lt) (H := H) (O := O) (hlim := hlim) (m := m) (i := i) (js := [jd, jc]) (hnd := nd) (hL := rfl) (x := vals [tm, t0, t1, ts] [] [] [] [] [] [cells] [] [n] [] []) (hf := ⟨f.small, hs' _ rfl⟩)
    · exact kSn13x3_ok (hkSn13x3 := h.n13x3) (hkLt := h.lt) (H := H) (O := O) (hlim := hlim) (m := m) (i := i) (js := [jd, jc]) (hnd := nd) (hL := rfl) (x := vals [tm, t0, t1, ts] [] [] [] [] [] [cells] [] [n] [] []) (hf := ⟨f.small, hs' _ rfl⟩)
    · exact kSn14x3_ok (hkSn14x3 := h.n14x3) (hkLt := h.lt) (H := H) (O := O) (hlim := hlim) (m := m) (i := i) (js := [jd, jc]) (hnd := nd) (hL := rfl) (x := vals [tm, t0, t1, ts] [] [] [] [] [] [cells] [] [n] [] []) (hf := ⟨f.small, hs' _ rfl⟩)
    · exact kSn5x3_ok (hkSn5x3 := h.n5x3) (hkLt := h.lt) (H := H) (O := O) (hlim := hlim) (m := m) (i := i) (js := [jd, jc]) (hnd := nd) (hL := rfl) (x := vals [tm, t0, t1, ts] [] [] [] [] [] [cells] [] [n] [] []) (hf := ⟨f.small, hs' _ rfl⟩)
    · exact kSn8x3_ok (hkSn8x3 := h.n8x3) (hkLt := h.lt) (H := H) (O := O) (hlim := hlim) (m := m) (i := i) (js := [jd, jc]) (hnd := nd) (hL := rfl) (x := vals [tm, t0, t1, ts] [] [] [] [] [] [cells] [] [n] [] []) (hf := ⟨f.small, hs' _ rfl⟩)
    · exact kSn11x3_ok (hkSn11x3 := h.n11x3) (hkLt := h.lt) (H := H) (O := O) (hlim := hlim) (m := m) (i := i) (js := [jd, jc]) (hnd := nd) (hL := rfl) (x := vals [tm, t0, t1, ts] [] [] [] [] [] [cells] [] [n] [] []) (hf := ⟨f.small, hs' _ rfl⟩)
end
end Mine
end
section
set_option maxRecDepth 100000
namespace Mine
open PySem PySem.W PySem.W.X
noncomputable def rngO (t r : Int) : Obj := ⟨.type "range_iterator", none, .fields #[.int t 0, .int r 0, .int 1 0], #[]⟩
noncomputable def kRng (t r : Nat) : Seg := ⟨1, fun _ _ σ _ => .code (.call (.builtin "range_iterator.__next__") ⟨[.ref (σ 0 + 417)], []⟩), fun _ _ _ => [rngO (Int.ofNat t) (Int.ofNat r + 1)], [0], fun _ _ _ _ => [rngO (Int.ofNat t + 1) (Int.ofNat r)],
  fun _ _ _ τ _ => .res (.ok (.ret (.int (Int.ofNat t) (τ 0)))), 0, 1, 84, 90, fun _ => 30, fun _ => [1, 1, 1, 1, 1, 1, 1, 1], fun _ _ _ _ _ => []⟩
noncomputable def fghi : Str := ⟨#[102, 103, 104, 105]⟩
noncomputable def kIx (t : Nat) : Seg := ⟨0, fun _ _ _ x => .code (.call (.builtin "str.__getitem__") ⟨[.str fghi (x.t 0), .int (Int.ofNat t) (x.t 1)], []⟩), fun _ _ _ => [], [], fun _ _ _ _ => [],
  fun _ _ _ τ _ => .res (.ok (.ret (.str ⟨#[t + 102]⟩ (τ 0)))), 0, 1, 84, 90, fun _ => 30, fun _ => [], fun _ _ _ _ _ => []⟩
structure RgRuns (kt : Params → KT) : Prop where
  rng : ∀ t r, t ≤ 3 → r ≤ 3 → (kRng t r).Run kt
  ix : ∀ t, t ≤ 3 → (kIx t).Run kt
section
variable {F : Fix} {σ τ : Nat → Nat} {lim : Nat} {us : List Use} {K : Addr → Option Obj} {dr : Drawn} {os : OsState} {m₀ i₀ : Nat}
theorem rng_use (h : RgRuns F.kt) (H : F.Ok) (O : VOk (F.vc σ τ lim us K dr os m₀ i₀)) (hlim : lim ≤ 84) (m i j : Nat) {t r : Nat} (ht : t ≤ 3 ∧ r ≤ 3) (x : Vals) :
    UseOk (F.vc σ τ lim us K dr os m₀ i₀) ((kRng t r).use F.w.params (F.kt F.w.params) σ τ m i [j] x) :=
  Seg.useOk (js := [j]) (m := m) (i := i) (x := x) (h.rng t r ht.1 ht.2) H O (by simp) rfl rfl (Nat.le_of_ble_eq_true rfl) (fun y hy => by have : y < 1 := hy; obtain rfl : y = 0 := (by omega); exact List.mem_cons_self (a := 0) (l := [])) hlim ⟨_, rfl⟩ ⟨_, rfl⟩ fun K' O' => uses_nil rfl
theorem ix_use (h : RgRuns F.kt) (H : F.Ok) (O : VOk (F.vc σ τ lim us K dr os m₀ i₀)) (hlim : lim ≤ 84) (m i : Nat) {t r : Nat} (ht : t ≤ 3 ∧ r ≤ 3) (x : Vals) :
    UseOk (F.vc σ τ lim us K dr os m₀ i₀) ((kIx t).use F.w.params (F.kt F.w.params) σ τ m i [] x) :=
  Seg.useOk (js := []) (m := m) (i := i) (x := x) (h.ix t ht.1) H O List.nodup_nil rfl rfl (Nat.zero_le _) (fun y hy => absurd hy (Nat.not_lt_zero y)) hlim ⟨_, rfl⟩ ⟨_, rfl⟩ fun K' O' => uses_nil rfl
end
end Mine
end
section
set_option maxRecDepth 100000
namespace Mine
open PySem PySem.W PySem.W.X
noncomputable def itO (l : Addr) (r : Int) : Obj := ⟨.type "list_iterator", none, .fields #[.ref l, .int r 0], #[]⟩
noncomputable def itEnd (r : Int) : Obj := ⟨.type "list_iterator", none, .fields #[.none, .int r 0], #[]⟩
noncomputable def refsOf (f : Nat → Addr) (k : Nat) : Array Value := (rg (fun j => Value.ref (f j)) 0 k).toArray
noncomputable def kIt (k r : Nat) : Seg := ⟨2, fun _ _ σ _ => .code (.call (.builtin "list_iterator.__next__") ⟨[.ref (σ 0 + 417)], []⟩), fun _ σ x => [itO (σ 1 + 417) (Int.ofNat r), lO (refsOf x.r k) (x.n 0)], [0, 1],
  fun _ σ _ x => [itO (σ 1 + 417) (Int.ofNat r + 1), lO (refsOf x.r k) (x.n 0)], fun _ _ _ _ x => .res (.ok (.ret (.ref (x.r r)))), 0, 0, 84, 90, fun _ => 30, fun _ => [1, 1, 1, 2, 1, 1, 1, 1], fun _ _ _ _ _ => []⟩
noncomputable def ItRuns (kt : Params → KT) : Prop := ∀ k r, r < k → k ≤ 4 → (kIt k r).Run kt
noncomputable def itUse (σ : Nat → Nat) (m i j jl : Nat) (xs : Array Value) (n : Nat) (r : Nat) (a : Addr) : Use :=
  ⟨.call (.builtin "list_iterator.__next__") ⟨[.ref (σ j + 417)], []⟩, m, i, [(j, itO (σ jl + 417) (Int.ofNat r)), (jl, lO xs n)], .ok (.ret (.ref a)), [(j, itO (σ jl + 417) (Int.ofNat r + 1)), (jl, lO xs n)], 0, 0⟩
structure ItFact (xs : Array Value) (r : Nat) (a : Addr) : Prop where
  ex : ∃ f k, xs = refsOf f k ∧ r < k ∧ k ≤ 4 ∧ f r = a
section
variable {F : Fix} {σ τ : Nat → Nat} {lim : Nat} {us : List Use} {K : Addr → Option Obj} {dr : Drawn} {os : OsState} {m₀ i₀ : Nat}
theorem it_use (h : ItRuns F.kt) (H : F.Ok) (O : VOk (F.vc σ τ lim us K dr os m₀ i₀)) (hlim : lim ≤ 84) (m i : Nat) {j jl : Nat} (hne : j ≠ jl) {xs : Array Value} (n : Nat) {r : Nat} {a : Addr} (f : ItFact xs r a) :
    UseOk (F.vc σ τ lim us K dr os m₀ i₀) (itUse σ m i j jl xs n r a) := by
  obtain ⟨g, k, rfl, hr, hk, rfl⟩ := f.ex
  have := Seg.useOk (js := [j, jl]) (m := m) (i := i) (x := ⟨fun _ => 0, fun _ => ⟨#[]⟩, fun _ => 0, fun _ => true, g, fun _ => #[], fun _ => #[], fun _ => n, fun _ => .none⟩) (h k r hr hk) H O (by simp [hne]) rfl rfl (Nat.le_of_ble_eq_true rfl)
    (fun y hy => by
      have : y < 2 := hy
      obtain rfl | rfl : y = 0 ∨ y = 1 := (by omega)
      · exact List.mem_cons_self (a := 0) (l := [1])
      · exact List.mem_cons_of_mem 0 (List.mem_cons_self (a := 1) (l := []))) hlim ⟨_, rfl⟩ ⟨_, rfl⟩ fun K' O' => uses_nil rfl
  exact this
end
end Mine
end
section
set_option maxRecDepth 100000
namespace Mine
open PySem PySem.W PySem.W.X
structure AllRuns (kt : Params → KT) : Prop where
  hkLt : kLt.Run kt
  hkGt : kGt.Run kt
  hkNe : kNe.Run kt
  hkEq : kEq.Run kt
  hkIeq : kIeq.Run kt
  hkIne : kIne.Run kt
  hkSub : kSub.Run kt
  hkEnt : kEnt.Run kt
  hkSettle : kSettle.Run kt
  hkWhole : kWhole.Run kt
  hkDeclP : kDeclP.Run kt
  hkDeclQ : kDeclQ.Run kt
  hkLd : kLd.Run kt
  hkLa : kLa.Run kt
  hkLdn : kLdn.Run kt
  hkLan : kLan.Run kt
  hkCnt : kCnt.Run kt
  hkChgS : kChgS.Run kt
  hkChgT : kChgT.Run kt
  hkChgU : kChgU.Run kt
  hTop : Tops kt
  hSp : SpRuns kt
  hSv : SvRuns kt
  hRg : RgRuns kt
  hIt : ItRuns kt
end Mine
end
section
set_option maxRecDepth 100000
namespace Mine
open PySem PySem.W PySem.W.X

/-- what is never touched -/
structure KOk (F : Fix) (K : Addr → Option Obj) : Prop where
  kt : ∀ a o, (F.kt F.w.params).get a = some o → K a = some o
  nolimit : ∀ h : Heap, (∀ b o, K b = some o → h.get? b = some o) → h.NoLimit

/-- what stands in the heap, by address -/
structure Hp (K : Addr → Option Obj) (dr : Drawn) (os : OsState) (s : Shared) (z : Nat) (l : List (Nat × Obj)) : Prop where
  gens : s.gens = #[]
  drawn : s.drawn = dr
  os : s.os = os
  keep : ∀ b o, K b = some o → s.heap.get? b = some o
  size : s.heap.objs.size = z + 417
  own : ∀ p ∈ l, K (p.1 + 417) = none ∧ s.heap.get? (p.1 + 417) = some p.2
  nd : (l.map Prod.fst).Nodup

theorem Hp.perm {K : Addr → Option Obj} {dr : Drawn} {os : OsState} {s : Shared} {z : Nat} {l l' : List (Nat × Obj)} (h : Hp K dr os s z l) (p : l.Perm l') : Hp K dr os s z l' :=
  ⟨h.gens, h.drawn, h.os, h.keep, h.size, fun q hq => h.own q (p.mem_iff.mpr hq), (p.map _).nodup_iff.mp h.nd⟩
theorem Hp.sub {K : Addr → Option Obj} {dr : Drawn} {os : OsState} {s : Shared} {z : Nat} {l l' : List (Nat × Obj)} (h : Hp K dr os s z l) (p : List.Sublist l' l) : Hp K dr os s z l' :=
  ⟨h.gens, h.drawn, h.os, h.keep, h.size, fun q hq => h.own q (p.subset hq), h.nd.sublist (p.map _)⟩
theorem Hp.drop_right {K : Addr → Option Obj} {dr : Drawn} {os : OsState} {s : Shared} {z : Nat} {l l' : List (Nat × Obj)} (h : Hp K dr os s z (l ++ l')) : Hp K dr os s z l := h.sub (List.sublist_append_left _ _)

/-- the addresses of a piece: those handed in, then new ones -/
noncomputable def adr (as : List Nat) (z x : Nat) : Nat := match Nat.blt x as.length with
  | true => as.getD x 0
  | false => z + (x - as.length)
theorem adr_lt {as : List Nat} {z x : Nat} (h : x < as.length) : adr as z x = as[x] := by
  unfold adr
  rw [show Nat.blt x as.length = true from Nat.ble_eq_true_of_le h, getD_at h]
theorem adr_ge {as : List Nat} {z x : Nat} (h : ¬ x < as.length) : adr as z x = z + (x - as.length) := by
  unfold adr
  have : Nat.blt x as.length = false := by
    cases b : Nat.blt x as.length with
    | false => rfl
    | true => exact absurd (Nat.le_of_ble_eq_true b) h
  rw [this]
theorem putL_get : ∀ (l : List (Nat × Obj)) (R : KT), idxOk l = true → (l.map Prod.fst).Nodup → ∀ (j : Nat) (o : Obj), (j, o) ∈ l → (putL R l).get j = some o
  | [], _, _, _, _, _, h => nomatch h
  | (k, x) :: l, R, hk, hn, j, o, h => by
    unfold idxOk at hk
    cases b : Nat.blt k 65536 with
    | false => rw [b] at hk; cases hk
    | true =>
      rw [b] at hk
      obtain ⟨hn1, hn2⟩ := List.nodup_cons.mp hn
      rcases List.mem_cons.mp h with e | h
      · obtain ⟨e1, e2⟩ := Prod.mk.inj e
        subst e1; subst e2
        have keep : ∀ (l : List (Nat × Obj)) (R : KT), idxOk l = true → j ∉ l.map Prod.fst → (putL R l).get j = R.get j := by
          intro l
          induction l with
          | nil => intro R _ _; rfl
          | cons p l ih =>
            intro R hk hj
            obtain ⟨k', x'⟩ := p
            unfold idxOk at hk
            cases b' : Nat.blt k' 65536 with
            | false => rw [b'] at hk; cases hk
            | true =>
              rw [b'] at hk
              simp only [List.map_cons, List.mem_cons, not_or] at hj
              show (putL (putT 17 R k' x') l).get j = _
              rw [ih _ hk hj.2, get_putT x' 16 R k' (Nat.le_of_ble_eq_true b'), if_neg hj.1]
        show (putL (putT 17 R j o) l).get j = _
        rw [keep l _ hk hn1, get_putT o 16 R j (Nat.le_of_ble_eq_true b), if_pos rfl]
      · exact putL_get l _ hk hn2 j o h

theorem tgt_range (L x : Nat) : tgt (List.range L) L x = x := by
  by_cases h : x < L
  · rw [tgt_lt (by simpa using h), getD_at (by simpa using h)]; simp
  · rw [tgt_ge (by simpa using h)]; simp; omega

open Classical in
noncomputable def ownK (s : Shared) (as : List Nat) (b : Addr) : Option Obj := if ∃ a ∈ as, b = a + 417 then none else s.heap.get? b

theorem zip_get {as : List Nat} {os : List Obj} {y : Nat} {o : Obj} (h : y < as.length) (e : os[y]? = some o) : (as[y], o) ∈ as.zip os := by
  obtain ⟨hy, e⟩ := List.getElem?_eq_some_iff.mp e
  rw [List.mem_iff_getElem]
  exact ⟨y, by rw [List.length_zip]; exact Nat.lt_min.mpr ⟨h, hy⟩, by simp [e]⟩

theorem Seg.step {S : Seg} {F : Fix} {K : Addr → Option Obj} {dr : Drawn} {os : OsState} (run : S.Run F.kt) (H : F.Ok) (HK : KOk F K) (as : List Nat) (x : Vals) (rest : List (Nat × Obj)) {z : Nat}
    (hL : as.length = S.L) (hL' : (S.ins F.w.params (adr as z) x).length = S.L) (hL2 : S.L ≤ 1000) (hxs : ∀ y, y < S.L → y ∈ S.xs) (hnd : S.xs.Nodup) (hxd : ∀ y ∈ S.xs, y < 65536)
    (hus : ∀ (τ : Nat → Nat) K', VOk (F.vc (adr as z) τ S.lim (S.us F.w.params (F.kt F.w.params) (adr as z) τ x) K' dr os S.L 0) → UsesOk (F.vc (adr as z) τ S.lim (S.us F.w.params (F.kt F.w.params) (adr as z) τ x) K' dr os S.L 0))
    {s : Shared} (D : Hp K dr os s z (as.zip (S.ins F.w.params (adr as z) x) ++ rest)) {n : Nat} {κ : TK} (hI : (∃ c, S.start F.w.params (F.kt F.w.params) (adr as z) x = .code c) → κ.Inv) (hn : n ≤ S.n0)
    (hk : ∀ s' τ, Hp K dr os s' (z + S.d) ((S.xs.map (adr as z)).zip (S.outs F.w.params (adr as z) τ x) ++ rest) →
      GoodF (model PySem.Challenge.pw_rg0017_01 F.w) S.n0 κ (S.fin F.w.params (F.kt F.w.params) (adr as z) τ x) s') :
    GoodS (model PySem.Challenge.pw_rg0017_01 F.w) n κ (S.start F.w.params (F.kt F.w.params) (adr as z) x) s := by
  have fst : (as.zip (S.ins F.w.params (adr as z) x)).map Prod.fst = as := by rw [List.map_fst_zip]; omega
  have nd : (as ++ rest.map Prod.fst).Nodup := by have := D.nd; rw [List.map_append, fst] at this; exact this
  obtain ⟨nd1, nd2, nd3⟩ := List.nodup_append.mp nd
  have low : ∀ p ∈ as.zip (S.ins F.w.params (adr as z) x) ++ rest, p.1 < z := fun p hp => by
    have q : p.1 + 417 < s.heap.objs.size := Heap.lt_size (D.own p hp).2
    have e : s.heap.objs.size = z + 417 := D.size
    omega
  have lowA : ∀ a ∈ as, a < z := fun a ha => by
    rw [← fst] at ha
    obtain ⟨p, hp, rfl⟩ := List.mem_map.mp ha
    exact low p (List.mem_append_left _ hp)
  have lowR : ∀ p ∈ rest, p.1 < z := fun p hp => low p (List.mem_append_right _ hp)
  have lowK : ∀ b o, K b = some o → b < z + 417 := fun b o e => by have q := Heap.lt_size (D.keep b o e); have e : s.heap.objs.size = z + 417 := D.size; rw [e] at q; exact q
  have ownN : ∀ a ∈ as, K (a + 417) = none := fun a ha => by
    rw [← fst] at ha
    obtain ⟨p, hp, rfl⟩ := List.mem_map.mp ha
    exact (D.own p (List.mem_append_left _ hp)).1
  have KK : ∀ b o, K b = some o → ownK s as b = some o := fun b o e => by
    unfold ownK
    rw [if_neg]
    · exact D.keep b o e
    · rintro ⟨a, ha, rfl⟩
      rw [ownN a ha] at e; cases e
  have τl : ∀ j, (fun y => s.toks + y) (j + 1) = (fun y => s.toks + y) j + 1 := fun j => rfl
  have σl : ∀ j, as.length ≤ j → adr as z (j + 1) = adr as z j + 1 := fun j h => by rw [adr_ge (by omega), adr_ge (by omega)]; omega
  have es : Seg.σ' (adr as z) (List.range S.L) S.L = adr as z := funext fun y => by unfold Seg.σ'; rw [tgt_range]
  have et : Seg.τ' (fun y => s.toks + y) 0 = fun y => s.toks + y := funext fun y => by unfold Seg.τ'; simp
  have O : VOk (F.vc (adr as z) (fun y => s.toks + y) S.lim (S.us F.w.params (F.kt F.w.params) (adr as z) (fun y => s.toks + y) x) (ownK s as) dr os S.L 0) :=
    H.vok (fun a o e => KK a o (HK.kt a o e)) (fun h e => HK.nolimit h fun b o q => e b o (KK b o q)) (fun j hj => σl j (by omega)) (fun j _ => τl j)
  have R₀ : ∀ j o, (initT 0 (S.ins F.w.params (adr as z) x) .nil).get j = some o → ∃ h : j < as.length, (as[j], o) ∈ as.zip (S.ins F.w.params (adr as z) x) := fun j o e => by
    rcases get_initT _ 0 .nil j o (by omega) e with ⟨_, h⟩ | h
    · have hy : j < (S.ins F.w.params (adr as z) x).length := by
        obtain ⟨q, _⟩ := List.getElem?_eq_some_iff.mp h
        simpa using q
      exact ⟨by omega, zip_get (by omega) (by simpa using h)⟩
    · exact absurd h (by rw [get_nil]; exact fun e => nomatch e)
  have R₁ : ∀ (l : List Obj) (k : Nat) (R : KT), k + l.length ≤ 1000 → ∀ j o, k ≤ j → l[j - k]? = some o → (initT k l R).get j = some o := by
    intro l
    induction l with
    | nil => intro k R _ j o _ e; simp at e
    | cons a l ih =>
      intro k R h j o hj e
      simp only [List.length_cons] at h
      by_cases q : j = k
      · subst q
        have keep : ∀ (l : List Obj) (k : Nat) (R : KT), j < k → k + l.length ≤ 1000 → (initT k l R).get j = R.get j := by
          intro l
          induction l with
          | nil => intro k R _ _; rfl
          | cons a l ih =>
            intro k R h h2
            simp only [List.length_cons] at h2
            show (initT (k + 1) l (putT 17 R k a)).get j = _
            rw [ih _ _ (by omega) (by omega), get_putT a 16 R k (by show k < 65536; omega), if_neg (by omega)]
        show (initT (j + 1) l (putT 17 R j a)).get j = _
        rw [keep l _ _ (by omega) (by omega), get_putT a 16 R j (by show j < 65536; omega), if_pos rfl]
        simpa using e
      · refine ih (k + 1) _ (by omega) j o (by omega) ?_
        rw [show j - k = (j - (k + 1)) + 1 by omega, List.getElem?_cons_succ] at e
        exact e
  have D' : Rep (F.vc (adr as z) (fun y => s.toks + y) S.lim (S.us F.w.params (F.kt F.w.params) (adr as z) (fun y => s.toks + y) x) (ownK s as) dr os S.L 0) s (initT 0 (S.ins F.w.params (adr as z) x) .nil) S.L 0 := by
    refine ⟨D.gens, D.drawn, D.os, fun b o e => ?_, ?_, ?_, Nat.le_refl _, Nat.le_refl _, fun j o e => ?_, fun j k hj hk e => ?_⟩
    · have e' : ownK s as b = some o := e
      unfold ownK at e'
      split at e'
      · cases e'
      · exact e'
    · rw [D.size]
      show z + 417 = adr as z S.L + 417
      rw [adr_ge (by omega)]; omega
    · show s.toks = s.toks + 0
      rfl
    · obtain ⟨hj, hm⟩ := R₀ j o e
      show ownK s as (adr as z j + 417) = none ∧ s.heap.get? (adr as z j + 417) = some o
      rw [adr_lt hj]
      refine ⟨?_, (D.own _ (List.mem_append_left _ hm)).2⟩
      unfold ownK
      rw [if_pos ⟨_, List.getElem_mem hj, rfl⟩]
    · obtain ⟨oj, ej⟩ := Option.isSome_iff_exists.mp hj
      obtain ⟨ok, ek⟩ := Option.isSome_iff_exists.mp hk
      obtain ⟨hj, _⟩ := R₀ j oj ej
      obtain ⟨hk, _⟩ := R₀ k ok ek
      have e' : adr as z j + 417 = adr as z k + 417 := e
      rw [adr_lt hj, adr_lt hk] at e'
      exact nodup_inj nd1 hj hk (by omega)
  have oat : S.outsAt F.w.params (adr as z) (fun y => s.toks + y) S.L 0 (List.range S.L) x = S.xs.zip (S.outs F.w.params (adr as z) (fun y => s.toks + y) x) := by
    unfold Seg.outsAt
    rw [es, et]
    congr 1
    rw [show tgt (List.range S.L) S.L = id from funext fun y => tgt_range _ _, List.map_id]
  have idx : ∀ l : List (Nat × Obj), (∀ p ∈ l, p.1 < 65536) → idxOk l = true := by
    intro l
    induction l with
    | nil => intro _; rfl
    | cons p l ih =>
      intro h
      obtain ⟨j, o⟩ := p
      unfold idxOk
      have : Nat.blt j 65536 = true := Nat.ble_eq_true_of_le (h (j, o) List.mem_cons_self)
      rw [this]
      exact ih fun p hp => h p (List.mem_cons_of_mem _ hp)
  have hix : idxOk (S.xs.zip (S.outs F.w.params (adr as z) (fun y => s.toks + y) x)) = true := idx _ fun p hp => hxd _ (List.of_mem_zip hp).1
  have key := Seg.sound (S := S) (F := F) (js := List.range S.L) (m := S.L) (i := 0) (x := x) (n := n) (κ := κ) run H O List.nodup_range (by simp) (by rw [es]; exact hL') hL2 hxs
    (by
      rw [es, et]
      intro K' O'
      rw [List.length_range] at O' ⊢
      exact hus _ K' O')
    (by rw [oat]; exact hix) (s := s) D' (by
      unfold Seg.insAt
      rw [es]
      intro p hp
      obtain ⟨y, hy, rfl⟩ := List.mem_iff_getElem.mp hp
      simp only [List.length_zip, List.length_range] at hy
      simp only [List.getElem_zip, List.getElem_range]
      exact R₁ _ 0 .nil (by omega) y _ (Nat.zero_le _) (by simp)) (by rw [es]; exact hI) hn
    (fun s' E => by
      rw [oat] at E
      rw [es, et]
      refine hk s' _ ?_
      have inj : ∀ y y', adr as z y = adr as z y' → y = y' := fun y y' e => by
        by_cases h : y < as.length <;> by_cases h' : y' < as.length
        · rw [adr_lt h, adr_lt h'] at e
          exact nodup_inj nd1 h h' e
        · rw [adr_lt h, adr_ge h'] at e
          have := lowA _ (List.getElem_mem h); omega
        · rw [adr_ge h, adr_lt h'] at e
          have := lowA _ (List.getElem_mem h'); omega
        · rw [adr_ge h, adr_ge h'] at e; omega
      have znd : ((S.xs.zip (S.outs F.w.params (adr as z) (fun y => s.toks + y) x)).map Prod.fst).Nodup := by
        refine hnd.sublist ?_
        rw [← List.take_append_drop (S.outs F.w.params (adr as z) (fun y => s.toks + y) x).length S.xs]
        have : ∀ (a : List Nat) (b : List Obj), List.Sublist ((a.zip b).map Prod.fst) a := by
          intro a
          induction a with
          | nil => intro b; simp
          | cons x a ih =>
            intro b
            cases b with
            | nil => simp
            | cons y b => simpa using (ih b)
        exact this _ _
      have notIn : ∀ p ∈ rest, ownK s as (p.1 + 417) = some p.2 := fun p hp => by
        unfold ownK
        rw [if_neg]
        · exact (D.own p (List.mem_append_right _ hp)).2
        · rintro ⟨a, ha, e⟩
          exact nd3 a ha p.1 (List.mem_map.mpr ⟨p, hp, rfl⟩) (Nat.add_right_cancel (m := 417) e).symm
      refine ⟨E.gens, E.drawn, E.os, fun b o e => E.keep b o (KK b o e), ?_, fun p hp => ?_, ?_⟩
      · have : s'.heap.objs.size = adr as z (S.L + S.d) + 417 := E.size
        rw [this, adr_ge (by omega)]; omega
      · rcases List.mem_append.mp hp with hp | hp
        · obtain ⟨y, hy, rfl⟩ := List.mem_iff_getElem.mp hp
          simp only [List.length_zip, List.length_map] at hy
          simp only [List.getElem_zip, List.getElem_map]
          have hm : (S.xs[y], (S.outs F.w.params (adr as z) (fun y => s.toks + y) x)[y]) ∈ S.xs.zip (S.outs F.w.params (adr as z) (fun y => s.toks + y) x) := List.mem_iff_getElem.mpr ⟨y, by simp; omega, by simp⟩
          have ow := E.own _ _ (putL_get _ (initT 0 (S.ins F.w.params (adr as z) x) .nil) hix znd _ _ hm)
          refine ⟨?_, ow.2⟩
          by_cases h : S.xs[y] < as.length
          · rw [adr_lt h]; exact ownN _ (List.getElem_mem h)
          · rw [adr_ge h]
            cases e : K (z + (S.xs[y] - as.length) + 417) with
            | none => rfl
            | some o =>
              have q : z + (S.xs[y] - as.length) + 417 < z + 417 := lowK _ _ e
              omega
        · exact ⟨(D.own p (List.mem_append_right _ hp)).1, E.keep _ _ (notIn p hp)⟩
      · rw [List.map_append]
        refine List.nodup_append.mpr ⟨?_, nd2, fun a ha b hb e => ?_⟩
        · have : (List.zip (S.xs.map (adr as z)) (S.outs F.w.params (adr as z) (fun y => s.toks + y) x)).map Prod.fst = ((S.xs.zip (S.outs F.w.params (adr as z) (fun y => s.toks + y) x)).map Prod.fst).map (adr as z) := by
            rw [List.zip_map_left, List.map_map, List.map_map]; rfl
          rw [this]
          exact List.Pairwise.map _ (fun a b h e => h (inj _ _ e)) znd
        · subst e
          obtain ⟨p, hp, rfl⟩ := List.mem_map.mp ha
          obtain ⟨r, hr, e⟩ := List.mem_map.mp hb
          have hp1 := (List.of_mem_zip hp).1
          obtain ⟨y, hy, e'⟩ := List.mem_map.mp hp1
          by_cases h : y < as.length
          · rw [adr_lt h] at e'
            exact nd3 _ (List.getElem_mem h) r.1 (List.mem_map.mpr ⟨r, hr, rfl⟩) (by rw [e', e])
          · rw [adr_ge h] at e'
            have q : r.1 < z := lowR r hr
            have e2 : r.1 = p.1 := e
            have e3 : z + (y - as.length) = p.1 := e'
            omega)
  rw [es] at key
  exact key
end Mine
end
section
set_option maxRecDepth 100000
namespace Mine
open PySem PySem.W PySem.W.X
/-- a choice of positions, all of them, each once -/
noncomputable def isPerm (js : List Nat) (n : Nat) : Bool := js.isPerm (List.range n)
theorem perm_of {js : List Nat} {n : Nat} (h : isPerm js n = true) : js.Perm (List.range n) := List.isPerm_iff.mp h
noncomputable def pk (c : List (Nat × Obj)) (js : List Nat) : List (Nat × Obj) := js.map fun j => c.getD j (0, default)
theorem pk_perm {c : List (Nat × Obj)} {js : List Nat} (h : isPerm js c.length = true) : c.Perm (pk c js) := by
  have p := (perm_of h).map (fun j => c.getD j (0, default))
  have e : (List.range c.length).map (fun j => c.getD j (0, default)) = c := by
    apply List.ext_getElem
    · simp
    · intro i h1 h2
      simp only [List.getElem_map, List.getElem_range]
      simp only [List.length_map, List.length_range] at h1
      simp [List.getD, h1]
  rw [e] at p
  exact p.symm
theorem Hp.pick {K : Addr → Option Obj} {dr : Drawn} {os : OsState} {s : Shared} {z : Nat} (c : List (Nat × Obj)) {rest : List (Nat × Obj)} (h : Hp K dr os s z (c ++ rest)) (js : List Nat) (hp : isPerm js c.length = true) : Hp K dr os s z (pk c js ++ rest) :=
  h.perm ((pk_perm hp).append_right rest)
theorem Hp.pick2 (n : Nat) {K : Addr → Option Obj} {dr : Drawn} {os : OsState} {s : Shared} {z : Nat} (c : List (Nat × Obj)) {rest : List (Nat × Obj)} (h : Hp K dr os s z (c ++ rest)) (js js' : List Nat) (hl : c.length = n) (hp : isPerm (js ++ js') n = true) : Hp K dr os s z (pk c js ++ (pk c js' ++ rest)) := by
  subst hl
  have := h.pick c (js ++ js') hp
  unfold pk at this
  rw [List.map_append, List.append_assoc] at this
  exact this
theorem Hp.assoc {K : Addr → Option Obj} {dr : Drawn} {os : OsState} {s : Shared} {z : Nat} {a b c : List (Nat × Obj)} (h : Hp K dr os s z (a ++ (b ++ c))) : Hp K dr os s z ((a ++ b) ++ c) := by rw [List.append_assoc]; exact h
theorem Hp.assoc' {K : Addr → Option Obj} {dr : Drawn} {os : OsState} {s : Shared} {z : Nat} {a b c : List (Nat × Obj)} (h : Hp K dr os s z ((a ++ b) ++ c)) : Hp K dr os s z (a ++ (b ++ c)) := by rw [List.append_assoc] at h; exact h
end Mine
end
section
set_option maxRecDepth 100000
namespace Mine
open PySem PySem.W PySem.W.X
noncomputable def tk (l : List Nat) (k : Nat) : Tok := l.getD k 0
noncomputable def vl (l : List Value) (k : Nat) : Value := l.getD k .none
section
variable {S : Seg} {F : Fix} {K : Addr → Option Obj} {dr : Drawn} {os : OsState} {l : List (Nat × Obj)} {rest : List (Nat × Obj)} {z : Nat} {s : Shared} {n : Nat} {κ : TK} {f : (Nat → Nat) → Fn}
noncomputable def xsOk (S : Seg) : Bool := ((List.range S.L).all fun y => S.xs.any fun x => Nat.beq x y) && decide S.xs.Nodup && S.xs.all fun y => decide (y < 65536)
theorem Seg.step' (as : List Nat) (x : Vals) (hl : l = List.zip as (S.ins F.w.params (adr as z) x)) (run : S.Run F.kt) (H : F.Ok) (HK : KOk F K) (D : Hp K dr os s z (l ++ rest))
    (hL : as.length = S.L) (hL' : (S.ins F.w.params (adr as z) x).length = S.L) (hL2 : S.L ≤ 1000) (hxs : xsOk S = true)
    (hus : ∀ (τ : Nat → Nat) K', VOk (F.vc (adr as z) τ S.lim (S.us F.w.params (F.kt F.w.params) (adr as z) τ x) K' dr os S.L 0) → UsesOk (F.vc (adr as z) τ S.lim (S.us F.w.params (F.kt F.w.params) (adr as z) τ x) K' dr os S.L 0))
    (hfin : ∀ τ, S.fin F.w.params (F.kt F.w.params) (adr as z) τ x = f τ) (hI : (∃ c, S.start F.w.params (F.kt F.w.params) (adr as z) x = .code c) → κ.Inv) (hn : n ≤ S.n0)
    (hk : ∀ s' τ, Hp K dr os s' (z + S.d) (List.zip (S.xs.map (adr as z)) (S.outs F.w.params (adr as z) τ x) ++ rest) → GoodF (model PySem.Challenge.pw_rg0017_01 F.w) S.n0 κ (f τ) s') :
    GoodS (model PySem.Challenge.pw_rg0017_01 F.w) n κ (S.start F.w.params (F.kt F.w.params) (adr as z) x) s := by
  subst hl
  unfold xsOk at hxs
  simp only [Bool.and_eq_true, decide_eq_true_eq, List.all_eq_true] at hxs
  obtain ⟨⟨h1, h2⟩, h3⟩ := hxs
  refine Seg.step run H HK as x rest hL hL' hL2 (fun y hy => ?_) h2 h3 hus D hI hn (fun s' τ E => ?_)
  · obtain ⟨j, hj, e⟩ := List.any_eq_true.mp (h1 y (by simpa using hy))
    rw [← Nat.eq_of_beq_eq_true e]; exact hj
  · rw [hfin]; exact hk s' τ E
theorem Seg.step_c {c : Code} (as : List Nat) (x : Vals) (hl : l = List.zip as (S.ins F.w.params (adr as z) x)) (run : S.Run F.kt) (H : F.Ok) (HK : KOk F K) (D : Hp K dr os s z (l ++ rest))
    (hst : S.start F.w.params (F.kt F.w.params) (adr as z) x = .code c)
    (hL : as.length = S.L) (hL' : (S.ins F.w.params (adr as z) x).length = S.L) (hL2 : S.L ≤ 1000) (hxs : xsOk S = true)
    (hus : ∀ (τ : Nat → Nat) K', VOk (F.vc (adr as z) τ S.lim (S.us F.w.params (F.kt F.w.params) (adr as z) τ x) K' dr os S.L 0) → UsesOk (F.vc (adr as z) τ S.lim (S.us F.w.params (F.kt F.w.params) (adr as z) τ x) K' dr os S.L 0))
    (hfin : ∀ τ, S.fin F.w.params (F.kt F.w.params) (adr as z) τ x = f τ) (hI : κ.Inv) (hn : n ≤ S.n0)
    (hk : ∀ s' τ, Hp K dr os s' (z + S.d) (List.zip (S.xs.map (adr as z)) (S.outs F.w.params (adr as z) τ x) ++ rest) → GoodF (model PySem.Challenge.pw_rg0017_01 F.w) S.n0 κ (f τ) s') :
    GoodC (model PySem.Challenge.pw_rg0017_01 F.w) n none κ c s := by
  have := Seg.step' as x hl run H HK D hL hL' hL2 hxs hus hfin (fun _ => hI) hn hk
  rw [hst] at this
  exact this
theorem Seg.step_t {t : Sem Fin} (as : List Nat) (x : Vals) (hl : l = List.zip as (S.ins F.w.params (adr as z) x)) (run : S.Run F.kt) (H : F.Ok) (HK : KOk F K) (D : Hp K dr os s z (l ++ rest))
    (hst : S.start F.w.params (F.kt F.w.params) (adr as z) x = .tree t)
    (hL : as.length = S.L) (hL' : (S.ins F.w.params (adr as z) x).length = S.L) (hL2 : S.L ≤ 1000) (hxs : xsOk S = true)
    (hus : ∀ (τ : Nat → Nat) K', VOk (F.vc (adr as z) τ S.lim (S.us F.w.params (F.kt F.w.params) (adr as z) τ x) K' dr os S.L 0) → UsesOk (F.vc (adr as z) τ S.lim (S.us F.w.params (F.kt F.w.params) (adr as z) τ x) K' dr os S.L 0))
    (hfin : ∀ τ, S.fin F.w.params (F.kt F.w.params) (adr as z) τ x = f τ) (hn : n ≤ S.n0)
    (hk : ∀ s' τ, Hp K dr os s' (z + S.d) (List.zip (S.xs.map (adr as z)) (S.outs F.w.params (adr as z) τ x) ++ rest) → GoodF (model PySem.Challenge.pw_rg0017_01 F.w) S.n0 κ (f τ) s') :
    Good (model PySem.Challenge.pw_rg0017_01 F.w) n none κ t s := by
  have := Seg.step' as x hl run H HK D hL hL' hL2 hxs hus hfin (fun ⟨c, h⟩ => by rw [hst] at h; cases h) hn hk
  rw [hst] at this
  exact this
end
end Mine
end
section
set_option maxRecDepth 100000
set_option maxHeartbeats 4000000
namespace Mine
open PySem PySem.W PySem.W.X
noncomputable def kF : List Str := [.mk #[115, 99, 114, 105, 112, 116], .mk #[115, 97, 110, 100], .mk #[114, 111, 111, 116], .mk #[114, 101, 103, 105, 111, 110, 115], .mk #[110, 97, 109, 101], .mk #[111, 119, 110, 101, 114], .mk #[105, 115, 95, 116, 97, 103, 103, 101, 100], .mk #[110], .mk #[116], .mk #[114, 111, 119, 115], .mk #[116, 117, 114, 110], .mk #[119, 97, 121], .mk #[103, 105, 118, 101, 115, 95, 105, 116], .mk #[104, 97, 115, 95, 105, 116], .mk #[116, 101, 120, 116], .mk #[111, 112, 101, 114, 97, 116, 105, 111, 110], .mk #[101, 110, 116, 105, 116, 121], .mk #[109, 97, 100, 101], .mk #[116, 97, 98, 108, 101], .mk #[100, 117, 101], .mk #[116, 111, 108, 100], .mk #[115, 99, 111, 112, 101], .mk #[99, 111, 117, 110, 116]]
noncomputable def frO (P : Params) (ks : List Str) (ts : List Tok) (vs : List Value) (n : Nat) : Obj := ⟨.type "frame", none, .dict (mkE P ks ts vs).toArray n, #[]⟩
noncomputable def v0 : Vals := vals [] [] [] [] [] [] [] [] [] [] []
noncomputable def rf (a : Nat) : Value := .ref (a + 417)
noncomputable def nm (k : Nat) : Str := .mk #[k + 102]
noncomputable def txt (has gives : Bool) : List Nat := (match has with | true => [115, 101, 108, 102] | false => [54, 49]) ++ 32 :: (match gives with | true => [115, 101, 108, 102] | false => [54, 49])
noncomputable def opS (has gives : Bool) (way k : Nat) : Str := match way with
  | 0 => .mk ((k + 102) :: 32 :: 105 :: 110 :: txt has gives).toArray
  | 1 => .mk (111 :: 108 :: 100 :: 32 :: 105 :: 110 :: txt has gives).toArray
  | _ => .mk #[]
noncomputable def numB : Bool → Int
  | true => 71
  | false => 61
end Mine
end
section
set_option maxRecDepth 100000
set_option maxHeartbeats 4000000
namespace Mine
open PySem PySem.W PySem.W.X
noncomputable def s1_0 : List Nat := [1,1,2,2,0,2,0,2,0,0,2,0,3,0,0,2,0,4,22,22,22,0,22,23,23,0,23,23,23,22,23,23,23,0,23,23,23,22,23,23,23,0,23,23,23,22,23,23,23,0,23,23,23,22,23,23,25,2,2,2,2,2,2,2,2,2,2,2,5,2,2,2,0,2,0,2,2,2,0,2,0,2,0,2,0,2,2,0,2,5,5,5,0,5,5,2,2,2,2,2,2,0,6,2,2,2,0,2,2,53,0,0,0,0,53,0,0,0,53,53,0,52,2,8,0,0,0,0,8,0,0,0,8,8,0,9,2,17,17,7,2,18,18,18,18,2,2,2,2,8]
noncomputable def s1_1 : List Nat := [1,1,2,2,0,2,0,2,0,0,2,0,3,0,0,2,0,4,22,22,22,0,22,23,23,0,23,23,23,22,23,23,23,0,23,23,23,22,23,23,23,0,23,23,23,22,23,23,23,0,23,23,23,22,23,23,25,2,2,2,2,2,2,2,2,2,2,2,5,2,2,2,0,2,0,2,2,2,0,2,0,0,2,0,2,2,0,2,5,5,5,0,5,5,2,2,2,2,2,2,0,6,2,2,2,0,2,2,53,0,0,0,0,53,0,0,0,53,53,0,52,2,8,0,0,0,0,8,0,0,0,8,8,0,9,2,17,17,7,2,18,18,18,18,2,2,2,2,8]
noncomputable def s1_2 : List Nat := [1,1,2,2,0,2,0,2,0,0,2,0,3,0,0,2,0,4,22,22,22,0,22,23,23,0,23,23,23,22,23,23,23,0,23,23,23,22,23,23,23,0,23,23,23,22,23,23,23,0,23,23,23,22,23,23,25,2,2,2,2,2,2,2,2,2,2,2,5,2,2,2,0,2,0,2,2,2,0,2,2,0,2,5,5,5,0,5,5,2,2,2,2,2,2,0,6,2,2,2,0,2,18,18,18,18,2,2,2,2,7]
noncomputable def s1_3 : List Nat := [1,1,2,2,0,2,0,2,0,0,2,0,3,0,0,2,0,4,22,22,22,0,22,23,23,0,23,23,23,22,23,23,23,0,23,23,23,22,23,23,23,0,23,23,23,22,23,23,23,0,23,23,23,22,23,23,25,2,2,2,2,2,2,2,2,2,2,5,2,2,2,0,2,0,2,2,2,0,2,0,2,0,2,0,2,2,0,2,5,5,5,0,5,5,2,2,2,2,2,2,0,6,2,2,2,0,2,2,53,0,0,0,0,53,0,0,0,53,53,0,52,2,8,0,0,0,0,8,0,0,0,8,8,0,9,2,17,17,7,2,18,18,18,18,2,2,2,2,8]
noncomputable def s1_4 : List Nat := [1,1,2,2,0,2,0,2,0,0,2,0,3,0,0,2,0,4,22,22,22,0,22,23,23,0,23,23,23,22,23,23,23,0,23,23,23,22,23,23,23,0,23,23,23,22,23,23,23,0,23,23,23,22,23,23,25,2,2,2,2,2,2,2,2,2,2,5,2,2,2,0,2,0,2,2,2,0,2,0,0,2,0,2,2,0,2,5,5,5,0,5,5,2,2,2,2,2,2,0,6,2,2,2,0,2,2,53,0,0,0,0,53,0,0,0,53,53,0,52,2,8,0,0,0,0,8,0,0,0,8,8,0,9,2,17,17,7,2,18,18,18,18,2,2,2,2,8]
noncomputable def s1_5 : List Nat := [1,1,2,2,0,2,0,2,0,0,2,0,3,0,0,2,0,4,22,22,22,0,22,23,23,0,23,23,23,22,23,23,23,0,23,23,23,22,23,23,23,0,23,23,23,22,23,23,23,0,23,23,23,22,23,23,25,2,2,2,2,2,2,2,2,2,2,5,2,2,2,0,2,0,2,2,2,0,2,2,0,2,5,5,5,0,5,5,2,2,2,2,2,2,0,6,2,2,2,0,2,18,18,18,18,2,2,2,2,7]
noncomputable def s1_6 : List Nat := [1,1,2,2,0,2,0,2,0,0,2,0,3,0,0,2,0,4,22,22,22,0,22,23,23,0,23,23,23,22,23,23,23,0,23,23,23,22,23,23,23,0,23,23,23,22,23,23,23,0,23,23,23,22,23,23,25,2,2,2,2,2,2,2,2,2,2,2,5,2,2,2,0,2,0,2,2,2,0,2,0,2,0,2,0,2,2,0,2,5,5,5,0,5,5,2,2,2,2,2,2,0,6,2,2,2,0,2,2,18,18,18,18,2,2,2,2,7]
noncomputable def s1_7 : List Nat := [1,1,2,2,0,2,0,2,0,0,2,0,3,0,0,2,0,4,22,22,22,0,22,23,23,0,23,23,23,22,23,23,23,0,23,23,23,22,23,23,23,0,23,23,23,22,23,23,23,0,23,23,23,22,23,23,25,2,2,2,2,2,2,2,2,2,2,2,5,2,2,2,0,2,0,2,2,2,0,2,0,0,2,0,2,2,0,2,5,5,5,0,5,5,2,2,2,2,2,2,0,6,2,2,2,0,2,2,18,18,18,18,2,2,2,2,7]
noncomputable def s1_8 : List Nat := [1,1,2,2,0,2,0,2,0,0,2,0,3,0,0,2,0,4,22,22,22,0,22,23,23,0,23,23,23,22,23,23,23,0,23,23,23,22,23,23,23,0,23,23,23,22,23,23,23,0,23,23,23,22,23,23,25,2,2,2,2,2,2,2,2,2,2,5,2,2,2,0,2,0,2,2,2,0,2,0,2,0,2,0,2,2,0,2,5,5,5,0,5,5,2,2,2,2,2,2,0,6,2,2,2,0,2,2,18,18,18,18,2,2,2,2,7]
noncomputable def s1_9 : List Nat := [1,1,2,2,0,2,0,2,0,0,2,0,3,0,0,2,0,4,22,22,22,0,22,23,23,0,23,23,23,22,23,23,23,0,23,23,23,22,23,23,23,0,23,23,23,22,23,23,23,0,23,23,23,22,23,23,25,2,2,2,2,2,2,2,2,2,2,5,2,2,2,0,2,0,2,2,2,0,2,0,0,2,0,2,2,0,2,5,5,5,0,5,5,2,2,2,2,2,2,0,6,2,2,2,0,2,2,18,18,18,18,2,2,2,2,7]
noncomputable def s1 (tg a : Bool) (way : Nat) : List Nat := match tg, a, way with
  | true, false, 0 => s1_0
  | true, false, 1 => s1_1
  | true, false, _ => s1_2
  | true, true, 0 => s1_3
  | true, true, 1 => s1_4
  | true, true, _ => s1_5
  | false, false, 0 => s1_6
  | false, false, 1 => s1_7
  | false, false, _ => s1_2
  | false, true, 0 => s1_8
  | false, true, 1 => s1_9
  | false, true, _ => s1_5
noncomputable def N1 (tg a : Bool) (way : Nat) : Nat := match tg, a, way with
  | true, false, 0 => 342
  | true, false, 1 => 341
  | true, false, _ => 270
  | true, true, 0 => 339
  | true, true, 1 => 338
  | true, true, _ => 267
  | false, false, 0 => 297
  | false, false, 1 => 296
  | false, false, _ => 270
  | false, true, 0 => 294
  | false, true, 1 => 293
  | false, true, _ => 267
noncomputable def bi : Bool → Int
  | true => 1
  | false => 0
noncomputable def hasB (a b : Bool) : Bool := match a with
  | true => true
  | false => match b with | true => false | false => true
noncomputable def tw (way j : Nat) : Nat := match way with | 0 => j | 1 => j + 1 | _ => j - 3
noncomputable def tz (way j : Nat) : Nat := match way with | 0 => j | 1 => j + 1 | _ => j - 4
noncomputable def fr1 (P : Params) (tg later : Bool) (X : Vals) (σ : Nat → Nat) (x : Vals) : Obj :=
  let l : List Value := [X.v 0, rf (σ 2), X.v 1, rf (σ 4), x.v 2, X.v 3, .bool tg, rf (σ 5), rf (σ 7), rf (σ 17)]
  match later with
  | true => frO P (kF.take 17) (rg x.t 1 17) (l ++ rg x.v 4 7) 17
  | false => frO P (kF.take 10) (rg x.t 1 10) l 10
/-- a number's type, its fields in X from t and v on -/
noncomputable def tyD (P : Params) (X : Vals) (t v : Nat) (num : Int) (last : Value) : Obj := mkD P kT (rg X.t t 3 ++ rg X.t (t + 4) 21) ([X.v v, X.v (v + 1), .int num (X.t (t + 3))] ++ rg X.v (v + 2) 20 ++ [last]) 24
noncomputable def pD (P : Params) (X : Vals) (q names order : Nat) : Obj := mkD P kR ([X.t 71] ++ rg X.t 73 7 ++ rg X.t 81 7) ([.str (.mk #[112, 97, 99, 107, 97, 103, 101]) (X.t 72), X.v 56, rf q, rf q, X.v 57, .int 3 (X.t 105), X.v 59, .str (X.s 0) (X.t 80), rf names, rf order] ++ rg X.v 60 5) 15
noncomputable def rootD (P : Params) (X : Vals) (made : Int) (mt : Tok) (counts : Nat) : Obj := mkD P kR ([X.t 88] ++ rg X.t 90 4 ++ rg X.t 95 10) ([.str (.mk #[114, 111, 111, 116]) (X.t 89), X.v 65, X.v 66, X.v 67, .int made mt] ++ rg X.v 68 7 ++ [rf counts, X.v 75, X.v 76]) 15
/-- frame, sand, cells, regions, n, t, p, names, root, counts, order, operations, rows -/
noncomputable def j1 (tg later : Bool) (X : Vals) (P : Params) (σ : Nat → Nat) (x : Vals) : List Obj := [
  fr1 P tg later X σ x, sandO P (X.t 18) (X.t 19) (x.t 20) (σ 3 + 417) (x.i 0), lO (X.a 0) (X.n 100), lO #[rf (σ 9), .ref (X.r 0)] 2,
  inst 223 (σ 6 + 417), tyD P X 21 11 61 (X.v 33),
  inst 223 (σ 8 + 417), tyD P X 46 34 71 (rf (σ 16)),
  inst 141 (σ 10 + 417), pD P X (σ 12) (σ 11) (σ 15),
  dO (x.e 0) (x.n 0),
  inst 141 (σ 13 + 417), rootD P X (x.i 3) (x.t 94) (σ 14),
  dO (x.e 1) (x.n 1), lO (x.a 1) (x.n 101), dO (x.e 2) (x.n 2), lO (x.a 2) (x.n 102)]
/-- the letters after a turn -/
noncomputable def n1 (tg later a b : Bool) (way k : Nat) (old : Bool) (P : Params) (σ τ : Nat → Nat) (x : Vals) : Vals :=
  { t := fun j => match later, Nat.ble 11 j && Nat.ble j 17 with
      | false, true => ([τ 1, τ 58, τ 59, τ 60, τ 70, τ (tw way 76), τ (tz way 249)] : List Tok).getD (j - 11) 0
      | _, _ => match Nat.beq j 20 with
        | true => τ 49
        | false => match Nat.beq j 94 with
          | true => τ (tz way 205)
          | false => x.t j
    s := x.s
    i := fun j => match j with | 0 => x.i 0 + 1 + 1 + 1 | 3 => x.i 3 + 1 | j => x.i j
    b := x.b
    r := x.r
    a := fun j => match j with | 1 => (x.a 1).push (rf (σ 52)) | 2 => (x.a 2).push (rf (σ 82)) | j => x.a j
    e := fun j => match j with
      | 0 => (x.e 0).push (ent P (nm k) (τ 63) (rf (σ 80)))
      | 1 => (x.e 1).push (ent P (nm k) (τ 63) (.int 1 (τ (tz way 234))))
      | 2 => match tg, way with
        | true, 0 => (x.e 2).push (ent P (opS (hasB a b) b 0 (k)) (τ 75) (.str (nm k) (τ 63)))
        | true, 1 => match old with
          | false => (x.e 2).push (ent P (opS (hasB a b) b 1 (k)) (τ 76) (.str (nm k) (τ 63)))
          | true => setE (x.e 2) (opS (hasB a b) b 1 (k)) (.str (nm k) (τ 63))
        | _, _ => x.e 2
      | j => x.e j
    n := fun j => match j with
      | 0 => x.n 0 + 1 | 1 => x.n 1 + 1
      | 2 => (match tg, way with | true, 0 => x.n 2 + 1 | true, 1 => (match old with | false => x.n 2 + 1 | true => x.n 2) | _, _ => x.n 2)
      | j => match Nat.beq j 101 || Nat.beq j 102 with | true => x.n j + 1 | false => x.n j
    v := fun j => match j with
      | 2 => .str (nm k) (τ 63) | 4 => .int (Int.ofNat (k)) (τ 0) | 5 => .int (Int.ofNat way) (τ 57) | 6 => .bool b | 7 => .bool (hasB a b)
      | 8 => .str (.mk (txt (hasB a b) b).toArray) (τ 69) | 9 => .str (opS (hasB a b) b way (k)) (τ (tw way 75)) | 10 => rf (σ 52) | j => x.v j }
structure Row where
  has : Bool
  gives : Bool
  way : Nat
  k : Nat
  t : Nat → Tok
  i : Int
noncomputable def Row.op (r : Row) : Str := opS r.has r.gives r.way r.k
noncomputable def Row.w (r : Row) (j : Nat) : Tok := r.t (tw r.way j)
noncomputable def Row.z (r : Row) (j : Nat) : Tok := r.t (tz r.way j)
noncomputable def Row.nv (r : Row) : Value := .str (nm r.k) (r.t 63)
/-- a row's objects; w: their addresses, y: the types' addresses, p: the region, s0: its part -/
noncomputable def subD (P : Params) (r : Row) (w : Nat → Nat) : Obj := mkD P kS [r.w 86, r.w 88, r.w 90, r.w 92, r.w 94, r.w 96, r.w 99, r.w 102, r.w 104, r.w 106, r.w 108]
    [r.nv, rf (w 21), rf (w 24), rf (w 12), rf (w 13), rf (w 14), .int 0 (r.w 97), .str r.op (r.w 75), rf (w 30), .none, .none] 11
noncomputable def entD (P : Params) (r : Row) (w : Nat → Nat) (p : Nat) (s0 : Str) (pt : Tok) : Obj := mkD P kE [r.z 151, r.z 153, r.z 155, r.z 157, r.z 159, r.z 161, r.z 164, r.z 167, r.z 169, r.z 172, r.z 174, r.z 176, r.z 178, r.z 180, r.z 182, r.z 184, r.z 186]
    [.str (.mk #[115, 117, 98]) (r.z 138), r.nv, rf (w 32), rf (w 24), rf (w 9), .int 3 (r.z 142), .int r.i (r.z 205), r.nv, rf p, .str s0 pt, .none, .none, .bool true, .bool true, .bool false, .bool false, .bool false] 17
noncomputable def rowT (r : Row) (w : Nat → Nat) : Obj := tO #[rf (w 34), .bool r.has, .bool r.gives, .int (Int.ofNat r.way) (r.t 57)]
noncomputable def stD1 (P : Params) (r : Row) (y : Bool → Nat) : Obj := mkD P kU [r.w 117, r.w 119] [rf (y r.has), .none] 2
noncomputable def stD2 (P : Params) (r : Row) (y : Bool → Nat) : Obj := mkD P kU [r.w 125, r.w 127] [rf (y r.gives), .none] 2
noncomputable def parT (r : Row) (w : Nat → Nat) : Obj := tO #[.str (.mk #[120]) (r.w 110), .str (.mk #[105, 110]) (r.w 111), rf (w 18), .none]
noncomputable def rowO (P : Params) (r : Row) (w : Nat → Nat) (y : Bool → Nat) (p : Nat) (s0 : Str) (pt : Tok) (nt : Bool → Tok) : List Obj := [
  subD P r w, inst 31 (w 8 + 417), lO #[] 0, lO #[] 0, lO #[] 0,
  stD1 P r y, inst 244 (w 17 + 417), parT r w, lO #[rf (w 20)] 0,
  stD2 P r y, inst 244 (w 23 + 417), lO (match r.way with | 0 => #[.int 0 (r.t 135)] | 1 => #[.int 0 (r.t 136)] | _ => #[]) 0,
  tO #[.int (numB r.has) (nt r.has)], tO #[rf (w 31), .int (numB r.gives) (nt r.gives)],
  entD P r w p s0 pt,
  inst 52 (w 33 + 417), lO #[rf (w 34)] 1, rowT r w]
noncomputable def rowX : List Nat := [8, 9, 12, 13, 14, 17, 18, 20, 21, 23, 24, 30, 31, 32, 33, 34, 62, 64]
noncomputable def ntX (X : Vals) (b : Bool) : Tok := match b with | true => X.t 49 | false => X.t 24
noncomputable def yB (n t : Nat) (b : Bool) : Nat := match b with | true => t | false => n
noncomputable def rw1 (a b : Bool) (way k : Nat) (τ : Nat → Tok) (x : Vals) : Row := ⟨hasB a b, b, way, k, τ, x.i 3 + 1⟩
/-- the letters of _law_function's call -/
noncomputable def vL (X x : Vals) (σ τ : Nat → Nat) (has gives : Bool) (way k : Nat) : Vals :=
  let T (b : Bool) : List Tok := match b with | true => rg X.t 46 25 | false => rg X.t 21 25
  let V (b : Bool) : List Value := match b with | true => rg X.v 34 22 ++ [rf (σ 16)] | false => rg X.v 11 23
  match has, gives with
  | true, true => vals ([τ 63, τ (tw way 75)] ++ T true ++ rg X.t 71 23 ++ [x.t 94] ++ rg X.t 95 10) [opS true true way (k), X.s 0] [71, x.i 3] [] [] [x.e 0, x.e 1] [x.a 1] [x.n 0, x.n 1] [x.n 101] (V true ++ [X.v 56, X.v 57, .int 3 (X.t 105)] ++ rg X.v 59 18) [k]
  | has, gives => vals ([τ 63, τ (tw way 75)] ++ T has ++ T gives ++ rg X.t 71 23 ++ [x.t 94] ++ rg X.t 95 10) [opS has gives way (k), X.s 0] [numB has, numB gives, x.i 3] [] [] [x.e 0, x.e 1] [x.a 1] [x.n 0, x.n 1] [x.n 101] (V has ++ V gives ++ [X.v 56, X.v 57, .int 3 (X.t 105)] ++ rg X.v 59 18) [k]
noncomputable def lfUse (P : Params) (T : KT) (σ τ : Nat → Nat) (X x : Vals) (has gives : Bool) (way k : Nat) : Use := match has, gives, way with
  | true, true, 2 => kLan.use P T σ τ 25 75 [7, 8, 9, 10, 11, 12, 13, 14, 15] (vL X x σ τ true true 2 k)
  | true, true, w => kLa.use P T σ τ 25 (tw w 78) [7, 8, 9, 10, 11, 12, 13, 14, 15] (vL X x σ τ true true w k)
  | true, false, 2 => kLdn.use P T σ τ 25 75 [7, 8, 5, 6, 9, 10, 11, 12, 13, 14, 15] (vL X x σ τ true false 2 k)
  | true, false, w => kLd.use P T σ τ 25 (tw w 78) [7, 8, 5, 6, 9, 10, 11, 12, 13, 14, 15] (vL X x σ τ true false w k)
  | false, g, 2 => kLdn.use P T σ τ 25 75 [5, 6, 7, 8, 9, 10, 11, 12, 13, 14, 15] (vL X x σ τ false true 2 k)
  | false, g, w => kLd.use P T σ τ 25 (tw w 78) [5, 6, 7, 8, 9, 10, 11, 12, 13, 14, 15] (vL X x σ τ false true w k)
noncomputable def u1 (tg a b : Bool) (way k l : Nat) (old : Bool) (X : Vals) (P : Params) (T : KT) (σ τ : Nat → Nat) (x : Vals) : List Use :=
  (kRng k l).use P T σ τ 18 0 [0] v0 ::
  svUse P σ τ 18 3 2 3 (X.t 18) (X.t 19) (x.t 20) (X.a 0) (X.n 100) (x.i 0) 2 (τ 2) (bi a) ::
  svUse P σ τ 19 22 2 3 (X.t 18) (X.t 19) (τ 11) (X.a 0) (X.n 100) (x.i 0 + 1) 2 (τ 21) (bi b) ::
  svUse P σ τ 20 41 2 3 (X.t 18) (X.t 19) (τ 30) (X.a 0) (X.n 100) (x.i 0 + 1 + 1) 3 (τ 40) (Int.ofNat way) ::
  (kIx (k)).use P T σ τ 25 63 [] (vals [τ 62, τ 0] [] [] [] [] [] [] [] [] [] []) ::
  lfUse P T σ τ X x (hasB a b) b way k ::
  match tg, way with
  | true, 0 => [dnewUse P σ 82 253 16 (x.e 2) (x.n 2) (opS (hasB a b) b 0 (k)) (τ 75) (.str (nm k) (τ 63)), appUse σ 83 254 17 (x.a 2) (x.n 102) (rf (σ 82))]
  | true, 1 => match old with
    | false => [dnewUse P σ 82 254 16 (x.e 2) (x.n 2) (opS (hasB a b) b 1 (k)) (τ 76) (.str (nm k) (τ 63)), appUse σ 83 255 17 (x.a 2) (x.n 102) (rf (σ 82))]
    | true => [doldUse σ 82 254 16 (x.e 2) (x.n 2) (opS (hasB a b) b 1 (k)) (τ 76) (.str (nm k) (τ 63)), appUse σ 83 255 17 (x.a 2) (x.n 102) (rf (σ 82))]
  | _, _ => [appUse σ 83 (tz way 251) 17 (x.a 2) (x.n 102) (rf (σ 82))]
noncomputable def e1 (tg : Bool) (way : Nat) : Nat := match tg, way with | true, 0 => 254 | true, 1 => 255 | _, w => tz w 251
noncomputable def k1 (tg later a b : Bool) (way k l : Nat) (old : Bool) (X : Vals) : Seg := ⟨18, fun P T σ x => .code (loopC T 9 (.ref (σ 0 + 417)) (σ 1 + 417)), fun P σ x => rngO (Int.ofNat k) (Int.ofNat l + 1) :: j1 tg later X P σ x, List.range 18 ++ rowX.map (18 + ·),
  fun P σ τ x => rngO (Int.ofNat k + 1) (Int.ofNat l) :: j1 tg true X P σ (n1 tg later a b way k old P σ τ x) ++ rowO P (rw1 a b way k τ x) (fun j => σ (18 + j)) (yB (σ 5) (σ 7)) (σ 9) (X.s 0) (X.t 80) (ntX X),
  fun P T σ τ x => .tree (.pure (.again (loopC T 9 (.ref (σ 0 + 417)) (σ 1 + 417)))), 65, e1 tg way, 30, 60, fun _ => N1 tg a way, fun _ => s1 tg a way, u1 tg a b way k l old X⟩
end Mine
end
section
set_option maxRecDepth 100000
set_option maxHeartbeats 4000000
namespace Mine
open PySem PySem.W PySem.W.X
/-- what a turn of the first loop needs -/
structure F1 (tg a b : Bool) (way k l : Nat) (old : Bool) (X x : Vals) : Prop where
  kl : k ≤ 3 ∧ l ≤ 3
  w3 : way = 0 ∨ way = 1 ∨ way = 2
  da : SvFact (X.a 0) (x.i 0) 2 (bi a)
  db : SvFact (X.a 0) (x.i 0 + 1) 2 (bi b)
  dw : SvFact (X.a 0) (x.i 0 + 1 + 1) 3 (Int.ofNat way)
  e0 : AllStr (x.e 0)
  e1 : lookS (x.e 0) (nm k) = none
  e2 : (x.e 0).size ≤ 60
  c0 : AllStr (x.e 1)
  c1 : lookS (x.e 1) (nm k) = none
  c2 : (x.e 1).size ≤ 60
  o0 : (x.a 1).size ≤ 60
  r0 : (x.a 2).size ≤ 60
  p0 : AllStr (x.e 2)
  p2 : (x.e 2).size ≤ 60
  p1 : tg = true → way ≠ 2 → (match old with | false => lookS (x.e 2) (opS (hasB a b) b way k) = none | true => way = 1 ∧ (lookS (x.e 2) (opS (hasB a b) b way k)).isSome = true)
section
variable {F : Fix} {σ τ : Nat → Nat} {lim : Nat} {us : List Use} {K : Addr → Option Obj} {dr : Drawn} {os : OsState} {m₀ i₀ : Nat}
theorem lf_ok {has gives : Bool} {way k : Nat} {X x : Vals} (hA : AllRuns F.kt) (H : F.Ok) (O : VOk (F.vc σ τ 60 us K dr os m₀ i₀)) (w3 : way = 0 ∨ way = 1 ∨ way = 2) (hg : has = true ∨ gives = true)
   (e0 : AllStr (x.e 0)) (e1 : lookS (x.e 0) (nm k) = none) (e2 : (x.e 0).size ≤ 60) (c0 : AllStr (x.e 1)) (c1 : lookS (x.e 1) (nm k) = none) (c2 : (x.e 1).size ≤ 60) (o0 : (x.a 1).size ≤ 60) :
   UseOk (F.vc σ τ 60 us K dr os m₀ i₀) (lfUse F.w.params (F.kt F.w.params) σ τ X x has gives way k) := by
  rcases w3 with rfl | rfl | rfl <;> cases has <;> cases gives
  all_goals first
    | (exfalso; rcases hg with h | h <;> cases h; done)
    | exact kLd_ok (hkLd := hA.hkLd) (hkSub := hA.hkSub) (hkWhole := hA.hkWhole) (hkNe := hA.hkNe) (hkEnt := hA.hkEnt) (hkDeclP := hA.hkDeclP) (hkSettle := hA.hkSettle) (hkEq := hA.hkEq) (hTop := hA.hTop) (hkIeq := hA.hkIeq) (H := H) (O := O) (hlim := Nat.le_of_ble_eq_true rfl) (m := _) (i := _) (hnd := by decide) (hL := rfl) (hf := ⟨rfl, ⟨⟨e0, e1⟩, c0, c1, c2, e0, e2, e1, o0⟩⟩)
    | exact kLdn_ok (hkLdn := hA.hkLdn) (hkSub := hA.hkSub) (hkWhole := hA.hkWhole) (hkNe := hA.hkNe) (hkEnt := hA.hkEnt) (hkDeclP := hA.hkDeclP) (hkSettle := hA.hkSettle) (hkEq := hA.hkEq) (hTop := hA.hTop) (hkIeq := hA.hkIeq) (H := H) (O := O) (hlim := Nat.le_of_ble_eq_true rfl) (m := _) (i := _) (hnd := by decide) (hL := rfl) (hf := ⟨rfl, ⟨⟨e0, e1⟩, c0, c1, c2, e0, e2, e1, o0⟩⟩)
    | exact kLa_ok (hkLa := hA.hkLa) (hkSub := hA.hkSub) (hkWhole := hA.hkWhole) (hkNe := hA.hkNe) (hkEnt := hA.hkEnt) (hkDeclP := hA.hkDeclP) (hkSettle := hA.hkSettle) (hkEq := hA.hkEq) (hTop := hA.hTop) (hkIeq := hA.hkIeq) (H := H) (O := O) (hlim := Nat.le_of_ble_eq_true rfl) (m := _) (i := _) (hnd := by decide) (hL := rfl) (hf := ⟨rfl, ⟨⟨e0, e1⟩, c0, c1, c2, e0, e2, e1, o0⟩⟩)
    | exact kLan_ok (hkLan := hA.hkLan) (hkSub := hA.hkSub) (hkWhole := hA.hkWhole) (hkNe := hA.hkNe) (hkEnt := hA.hkEnt) (hkDeclP := hA.hkDeclP) (hkSettle := hA.hkSettle) (hkEq := hA.hkEq) (hTop := hA.hTop) (hkIeq := hA.hkIeq) (H := H) (O := O) (hlim := Nat.le_of_ble_eq_true rfl) (m := _) (i := _) (hnd := by decide) (hL := rfl) (hf := ⟨rfl, ⟨⟨e0, e1⟩, c0, c1, c2, e0, e2, e1, o0⟩⟩)
theorem hasB_or (a b : Bool) : hasB a b = true ∨ b = true := by cases a <;> cases b <;> simp [hasB]
theorem u1_ok {tg a b old : Bool} {way k l : Nat} {X x : Vals} (hA : AllRuns F.kt) (H : F.Ok) (O : VOk (F.vc σ τ 60 (u1 tg a b way k l old X F.w.params (F.kt F.w.params) σ τ x) K dr os m₀ i₀)) (hf : F1 tg a b way k l old X x) :
    UsesOk (F.vc σ τ 60 (u1 tg a b way k l old X F.w.params (F.kt F.w.params) σ τ x) K dr os m₀ i₀) := uses_all (
  all_cons (rng_use hA.hRg H O (Nat.le_of_ble_eq_true rfl) _ _ _ hf.kl _) <|
  all_cons (sv_use hA.hSv H O (Nat.le_of_ble_eq_true rfl) _ _ (by decide) _ _ _ _ _ hf.da) <|
  all_cons (sv_use hA.hSv H O (Nat.le_of_ble_eq_true rfl) _ _ (by decide) _ _ _ _ _ hf.db) <|
  all_cons (sv_use hA.hSv H O (Nat.le_of_ble_eq_true rfl) _ _ (by decide) _ _ _ _ _ hf.dw) <|
  all_cons (ix_use hA.hRg H O (Nat.le_of_ble_eq_true rfl) _ _ hf.kl _) <|
  all_cons (lf_ok hA H O hf.w3 (hasB_or a b) hf.e0 hf.e1 hf.e2 hf.c0 hf.c1 hf.c2 hf.o0) <| by
    have p1 := hf.p1
    rcases hf.w3 with e | e | e <;> subst e <;> cases tg
    · exact all_cons (app_use O _ _ _ _ hf.r0) all_nil
    · cases old with
      | false => exact all_cons (dnew_use O _ _ _ _ _ _ hf.p0 hf.p2 (p1 rfl (by decide))) (all_cons (app_use O _ _ _ _ hf.r0) all_nil)
      | true => exact absurd (p1 rfl (by decide)).1 (by decide)
    · exact all_cons (app_use O _ _ _ _ hf.r0) all_nil
    · cases old with
      | false => exact all_cons (dnew_use O _ _ _ _ _ _ hf.p0 hf.p2 (p1 rfl (by decide))) (all_cons (app_use O _ _ _ _ hf.r0) all_nil)
      | true => exact all_cons (dold_use O _ _ _ _ _ _ hf.p0 hf.p2 (p1 rfl (by decide)).2) (all_cons (app_use O _ _ _ _ hf.r0) all_nil)
    · exact all_cons (app_use O _ _ _ _ hf.r0) all_nil
    · exact all_cons (app_use O _ _ _ _ hf.r0) all_nil)
end
/-- the runs of the first loop's turns -/
noncomputable def R1 (kt : Params → KT) : Prop := ∀ tg later a b way k l old X, way = 0 ∨ way = 1 ∨ way = 2 → (old = true → tg = true ∧ way = 1 ∧ later = true) → (k1 tg later a b way k l old X).Run kt
theorem turn1 {F : Fix} {K : Addr → Option Obj} {dr : Drawn} {os : OsState} (hA : AllRuns F.kt) (hR : R1 F.kt) (H : F.Ok) (HK : KOk F K) {A : Nat → Nat} {tg later a b old : Bool} {way k l : Nat} {X x : Vals} {rest : List (Nat × Obj)} {s : Shared} {z n : Nat} {κ : TK} (hI : κ.Inv) (hn : n ≤ 30)
    (ho : old = true → tg = true ∧ way = 1 ∧ later = true) (f : F1 tg a b way k l old X x)
    (D : Hp K dr os s z ((rg A 0 18).zip (rngO (Int.ofNat k) (Int.ofNat l + 1) :: j1 tg later X F.w.params A x) ++ rest))
    (hk : ∀ s' τ, Hp K dr os s' (z + 65) ((rg A 0 18).zip (rngO (Int.ofNat k + 1) (Int.ofNat l) :: j1 tg true X F.w.params A (n1 tg later a b way k old F.w.params (adr (rg A 0 18) z) τ x)) ++
        ((rowX.map (z + ·)).zip (rowO F.w.params (rw1 a b way k τ x) (fun j => z + j) (yB (A 5) (A 7)) (A 9) (X.s 0) (X.t 80) (ntX X)) ++ rest)) →
      GoodC (model PySem.Challenge.pw_rg0017_01 F.w) 30 none κ (loopC (F.kt F.w.params) 9 (.ref (A 0 + 417)) (A 1 + 417)) s') :
    GoodC (model PySem.Challenge.pw_rg0017_01 F.w) n none κ (loopC (F.kt F.w.params) 9 (.ref (A 0 + 417)) (A 1 + 417)) s := by
  refine Seg.step_c (S := k1 tg later a b way k l old X) (rg A 0 18) x rfl (hR tg later a b way k l old X f.w3 ho) H HK D rfl rfl rfl (Nat.le_of_ble_eq_true rfl) (by kernel_rfl) (fun τ K' O => u1_ok hA H O f) (fun _ => rfl) hI hn (fun s' τ E => ?_)
  refine good_again hI rfl (hk s' τ ?_)
  exact E
end Mine
end
section
set_option maxRecDepth 100000
set_option maxHeartbeats 4000000
namespace Mine
open PySem PySem.W PySem.W.X
noncomputable def s2a : List Nat := [1,1,1,3,3,3,0,3,14,14,0,14,14,14,3,14,14,14,0,14,14,14,3,14,14,14,0,14,14,14,3,14,14,14,0,14,14,14,3,14,14,14,0,14,14,14,3,14,14,16,4,4,4,4,4,4,4,4,4,4,4,4,5,0,0,0,0,5,0,0,0,5,5,0,6,7,0,0,0,0,7,0,0,0,7,7,0,8,0,4,5,0,0,0,0,5,0,0,0,5,5,0,6,7,0,0,0,0,7,0,0,0,7,7,0,8,0,4,4,4,9,9,9,9,4,5,0,0,0,0,5,0,0,0,5,5,0,6,4,4,4,5,0,0,0,0,5,0,0,0,5,5,0,6,4,10,10,10,0,10,10,11,0,0,0,0,11,0,0,0,11,11,0,12,0,4,19,17,19,0,19,17,19,17,2,4,4]
noncomputable def s2b : List Nat := [1,1,1,3,3,3,0,3,14,14,0,14,14,14,3,14,14,14,0,14,14,14,3,14,14,14,0,14,14,14,3,14,14,14,0,14,14,14,3,14,14,14,0,14,14,14,3,14,14,16,4,4,4,4,4,4,4,4,4,4,4,2,4,4,5,0,0,0,0,5,0,0,0,5,5,0,6,7,0,0,0,0,7,0,0,0,7,7,0,8,0,4,5,0,0,0,0,5,0,0,0,5,5,0,6,7,0,0,0,0,7,0,0,0,7,7,0,8,0,4,4,4,9,9,9,9,4,5,0,0,0,0,5,0,0,0,5,5,0,6,4,4,4,5,0,0,0,0,5,0,0,0,5,5,0,6,4,10,10,10,0,10,10,11,0,0,0,0,11,0,0,0,11,11,0,12,0,4,19,17,19,0,19,17,19,17,3,4,4,4,4,4,4,5,0,0,0,0,5,0,0,0,5,5,0,6,7,0,0,0,0,7,0,0,0,7,7,0,8,0,13,13,5]
noncomputable def s2s : List Nat := [1,1,1,3,3,3,0,3,14,14,0,14,14,14,3,14,14,14,0,14,14,14,3,14,14,14,0,14,14,14,3,14,14,14,0,14,14,14,3,14,14,14,0,14,14,14,3,14,14,16,4,4,4,4,4,4,4,4,4,4,4,2,4,4,4,3]
noncomputable def s2u : List Nat := [1,1,1,3,3,3,0,3,14,14,0,14,14,14,3,14,14,14,0,14,14,14,3,14,14,14,0,14,14,14,3,14,14,14,0,14,14,14,3,14,14,14,0,14,14,14,3,14,14,16,4,4,4,4,4,4,4,4,4,4,4,4,4,9,9,9,9,4,5,0,0,0,0,5,0,0,0,5,5,0,6,4,4,4,5,0,0,0,0,5,0,0,0,5,5,0,6,4,10,10,10,0,10,10,11,0,0,0,0,11,0,0,0,11,11,0,12,0,4,20,18,20,0,20,18,20,18,2,4]
noncomputable def sel : List (Nat × Nat) → (Nat → Nat) → Nat → Nat
  | [], W, j => W j
  | (a, v) :: l, W, j => match Nat.beq a j with | true => v | false => sel l W j
noncomputable def fr2 (P : Params) (tg told : Bool) (X : Vals) (σ : Nat → Nat) (x : Vals) : Obj :=
  let l : List Value := [X.v 0, X.v 1, X.v 2, rf (σ 9), X.v 3, X.v 4, .bool tg, X.v 5, X.v 6, X.v 7, X.v 8, x.v 9, x.v 10, x.v 11, X.v 12, X.v 13, x.v 14, X.v 15, rf (σ 12), rf (σ 8)]
  match told with
  | true => frO P (kF.take 21) (rg x.t 2 21) (l ++ [x.v 16]) 21
  | false => frO P (kF.take 20) (rg x.t 2 20) l 20
/-- the row's addresses -/
noncomputable def w2 (σ W : Nat → Nat) : Nat → Nat := sel [(64, σ 2), (34, σ 4), (33, σ 5), (9, σ 6), (8, σ 7)] W
/-- rows, the row, frame, entity, its dict, data, its dict, due, regions, p, its dict, table (behind the iterator) -/
noncomputable def j2 (tg told : Bool) (r : Row) (W : Nat → Nat) (q : Nat → Nat) (Y X : Vals) (P : Params) (σ : Nat → Nat) (x : Vals) : List Obj := [
  lO (X.a 0) (X.n 100), rowT r (w2 σ W), fr2 P tg told X σ x, inst 52 (σ 5 + 417), entD P r (w2 σ W) (σ 10) (Y.s 0) (Y.t 80), inst 31 (σ 7 + 417), subD P r (w2 σ W),
  lO (x.a 1) (x.n 101), lO #[rf (σ 10), .ref (Y.r 0)] 2, inst 141 (σ 11 + 417), pD P Y (q 0) (q 1) (q 2), dO (x.e 0) (x.n 0)]
noncomputable def in7 : Bool → Int
  | true => 72
  | false => 61
/-- what is done with a row: due of a tagged type; of a plain one; left out -/
inductive Do where
  | tag
  | plain
  | out
noncomputable def Do.tg : Do → Bool
  | .plain => false
  | _ => true
noncomputable def n2 (d : Do) (told : Bool) (r : Row) (P : Params) (σ τ : Nat → Nat) (x : Vals) : Vals :=
  { t := fun j => match told, Nat.beq j 22 with
      | false, true => (match d with | .tag => (match r.gives with | true => τ 9 | false => τ 8) | .plain => τ 5 | .out => x.t 22)
      | _, _ => x.t j
    s := x.s
    i := x.i
    b := x.b
    r := x.r
    a := fun j => match j with | 1 => (match d with | .tag => (x.a 1).push (rf (σ 19)) | .plain => (x.a 1).push (rf (σ 20)) | .out => x.a 1) | j => x.a j
    e := fun j => match j with | 0 => (match d, r.gives with | .tag, true => setE (x.e 0) r.op (.str (.mk #[]) (τ 17)) | _, _ => x.e 0) | j => x.e j
    n := fun j => match Nat.beq j 101 with | true => (match d with | .out => x.n 101 | _ => x.n 101 + 1) | false => x.n j
    v := fun j => match j with
      | 9 => .int (Int.ofNat r.way) (r.t 57) | 10 => .bool r.gives | 11 => .bool r.has | 14 => rf (σ 4) | 16 => (match d with | .tag => rf (σ 16) | .plain => rf (σ 17) | .out => x.v 16) | j => x.v j }
/-- a due row's tuple -/
noncomputable def dueT (r : Row) (key : Nat) (c : Tok) (num : Value) (op ctl : Value) : Obj := tO #[r.nv, rf key, .int (in7 r.gives) c, r.nv, num, op, ctl]
noncomputable def o2 (d : Do) (r : Row) (W : Nat → Nat) (Y : Vals) (w τ : Nat → Nat) : List Obj := match d with
  | .tag => (match r.gives with
    | true => [tO #[.str r.op (r.w 75), rf (W 30)], tO #[.int (in7 r.has) (τ 11)], dueT r (w 17) (τ 12) (.int 3 (Y.t 105)) (.str r.op (r.w 75)) (rf (W 30))]
    | false => [tO #[.str r.op (r.w 75), rf (W 30)], tO #[.int (in7 r.has) (τ 10)], dueT r (w 17) (τ 11) (.int 3 (Y.t 105)) (.str r.op (r.w 75)) (rf (W 30))])
  | .plain => [lO #[] 0, tO #[.str (.mk #[]) (τ 4), rf (w 16)], tO #[.int (in7 r.has) (τ 7)], dueT r (w 18) (τ 8) (.int 3 (Y.t 105)) (.str (.mk #[]) (τ 4)) (rf (w 16))]
  | .out => []
noncomputable def x2 : Do → List Nat
  | .tag => [16, 17, 19]
  | .plain => [16, 17, 18, 20]
  | .out => []
noncomputable def u2 (d : Do) (r : Row) (m : Nat) (X : Vals) (P : Params) (T : KT) (σ τ : Nat → Nat) (x : Vals) : List Use :=
  itUse σ 13 0 0 1 (X.a 0) (X.n 100) m (σ 2 + 417) :: match d with
  | .tag => (match r.gives with
    | true => [cmpUse "int.__eq__" 16 5 (.int (Int.ofNat r.way) (r.t 57)) (.int 0 (τ 4)) true, appUse σ 20 16 8 (x.a 1) (x.n 101) (rf (σ 19)), cmpUse "int.__eq__" 20 17 (.int (Int.ofNat r.way) (r.t 57)) (.int 0 (τ 16)) true, doldUse σ 20 20 12 (x.e 0) (x.n 0) r.op (r.w 75) (.str (.mk #[]) (τ 17))]
    | false => [appUse σ 20 15 8 (x.a 1) (x.n 101) (rf (σ 19))])
  | .plain => [appUse σ 21 12 8 (x.a 1) (x.n 101) (rf (σ 20))]
  | .out => [cmpUse "int.__eq__" 16 5 (.int (Int.ofNat r.way) (r.t 57)) (.int 0 (τ 4)) false, cmpUse "int.__eq__" 16 6 (.int (Int.ofNat r.way) (r.t 57)) (.int 0 (τ 5)) false]
noncomputable def d2 : Do → Nat
  | .tag => 7
  | .plain => 8
  | .out => 3
noncomputable def e2 (d : Do) (r : Row) : Nat := match d with
  | .tag => (match r.gives with | true => 21 | false => 15)
  | .plain => 12
  | .out => 6
noncomputable def N2 (d : Do) (r : Row) : Nat := match d with
  | .tag => (match r.gives with | true => 368 | false => 310)
  | .plain => 231
  | .out => 124
noncomputable def s2 (d : Do) (r : Row) : List Nat := match d with
  | .tag => (match r.gives with | true => s2b | false => s2a)
  | .plain => s2u
  | .out => s2s
noncomputable def T2 (d : Do) (told : Bool) : Bool := match d with
  | .out => told
  | _ => true
noncomputable def k2 (d : Do) (told : Bool) (r : Row) (m : Nat) (W q : Nat → Nat) (Y X : Vals) : Seg := ⟨13, fun P T σ x => .code (loopC T 12 (.ref (σ 0 + 417)) (σ 3 + 417)), fun P σ x => itO (σ 1 + 417) (Int.ofNat m) :: j2 d.tg told r W q Y X P σ x, List.range 13 ++ x2 d,
  fun P σ τ x => itO (σ 1 + 417) (Int.ofNat m + 1) :: j2 d.tg (T2 d told) r W q Y X P σ (n2 d told r P σ τ x) ++ o2 d r W Y σ τ,
  fun P T σ τ x => .tree (.pure (.again (loopC T 12 (.ref (σ 0 + 417)) (σ 3 + 417)))), d2 d, e2 d r, 30, 60, fun _ => N2 d r, fun _ => s2 d r, u2 d r m X⟩
/-- what a turn of the second loop needs -/
structure F2 (d : Do) (r : Row) (m : Nat) (A : Nat → Nat) (X x : Vals) : Prop where
  it : ItFact (X.a 0) m (A 2 + 417)
  due : (x.a 1).size ≤ 60
  tab : d = .tag → r.gives = true → r.way = 0 ∧ AllStr (x.e 0) ∧ (x.e 0).size ≤ 60 ∧ (lookS (x.e 0) r.op).isSome = true
  out : d = .out → r.gives = true ∧ r.way ≠ 0
section
variable {F : Fix} {σ τ : Nat → Nat} {lim : Nat} {us : List Use} {K : Addr → Option Obj} {dr : Drawn} {os : OsState} {m₀ i₀ : Nat}
theorem eq0_use (hA : AllRuns F.kt) (H : F.Ok) (O : VOk (F.vc σ τ 60 us K dr os m₀ i₀)) (m i w : Nat) (t u : Tok) (b : Bool) (h : decide ((Int.ofNat w) = (0 : Int)) = b) : UseOk (F.vc σ τ 60 us K dr os m₀ i₀) (cmpUse "int.__eq__" m i (.int (Int.ofNat w) t) (.int 0 u) b) :=
  cmp_use hA.hkIeq H O (Nat.le_of_ble_eq_true rfl) _ _ (vals [t, u] [] [Int.ofNat w, 0] [] [] [] [] [] [] [] []) (Prod.ext h rfl)
theorem u2_ok {d : Do} {r : Row} {m : Nat} {X x : Vals} (hA : AllRuns F.kt) (H : F.Ok) (O : VOk (F.vc σ τ 60 (u2 d r m X F.w.params (F.kt F.w.params) σ τ x) K dr os m₀ i₀)) (hf : F2 d r m σ X x) :
    UsesOk (F.vc σ τ 60 (u2 d r m X F.w.params (F.kt F.w.params) σ τ x) K dr os m₀ i₀) := uses_all (
  all_cons (it_use hA.hIt H O (Nat.le_of_ble_eq_true rfl) _ _ (by decide) _ hf.it) <| by
    cases d with
    | tag =>
      have ht := hf.tab rfl
      show ∀ u ∈ (match r.gives with
        | true => [cmpUse "int.__eq__" 16 5 (.int (Int.ofNat r.way) (r.t 57)) (.int 0 (τ 4)) true, appUse σ 20 16 8 (x.a 1) (x.n 101) (rf (σ 19)), cmpUse "int.__eq__" 20 17 (.int (Int.ofNat r.way) (r.t 57)) (.int 0 (τ 16)) true, doldUse σ 20 20 12 (x.e 0) (x.n 0) r.op (r.w 75) (.str (.mk #[]) (τ 17))]
        | false => [appUse σ 20 15 8 (x.a 1) (x.n 101) (rf (σ 19))]), UseOk _ u
      cases hg : r.gives with
      | true =>
        obtain ⟨h0, h1, h2, h3⟩ := ht hg
        have e0 : decide ((Int.ofNat r.way) = (0 : Int)) = true := by rw [h0]; rfl
        exact all_cons (eq0_use hA H O _ _ _ _ _ _ e0) (all_cons (app_use O _ _ _ _ hf.due) (all_cons (eq0_use hA H O _ _ _ _ _ _ e0) (all_cons (dold_use O _ _ _ _ _ _ h1 h2 h3) all_nil)))
      | false => exact all_cons (app_use O _ _ _ _ hf.due) all_nil
    | plain => exact all_cons (app_use O _ _ _ _ hf.due) all_nil
    | out =>
      have e0 : decide ((Int.ofNat r.way) = (0 : Int)) = false := decide_eq_false fun h => (hf.out rfl).2 (by have := Int.ofNat.inj h; exact this)
      exact all_cons (eq0_use hA H O _ _ _ _ _ _ e0) (all_cons (eq0_use hA H O _ _ _ _ _ _ e0) all_nil))
end
/-- what a row asks -/
noncomputable def DoOk (tg : Bool) (r : Row) : Do → Prop
  | .tag => tg = true ∧ (r.gives = true → r.way = 0)
  | .plain => tg = false
  | .out => tg = true ∧ r.gives = true ∧ r.way ≠ 0
noncomputable def Row.Ok (r : Row) : Prop := r.has = true ∨ r.gives = true
noncomputable def R2 (kt : Params → KT) : Prop := ∀ d told r m W q Y X, r.Ok → (d = .tag → r.gives = true → r.way = 0) → (d = .out → r.gives = true) → (k2 d told r m W q Y X).Run kt
theorem turn2 {F : Fix} {K : Addr → Option Obj} {dr : Drawn} {os : OsState} (hA : AllRuns F.kt) (hR : R2 F.kt) (H : F.Ok) (HK : KOk F K) {A : Nat → Nat} {d : Do} {told : Bool} {r : Row} {m : Nat} {W q : Nat → Nat} {Y X x : Vals} {rest : List (Nat × Obj)} {s : Shared} {z n : Nat} {κ : TK} (hI : κ.Inv) (hn : n ≤ 30)
    (hr : r.Ok) (f : F2 d r m (adr (rg A 0 13) z) X x)
    (D : Hp K dr os s z ((rg A 0 13).zip (itO (A 1 + 417) (Int.ofNat m) :: j2 d.tg told r W q Y X F.w.params A x) ++ rest))
    (hk : ∀ s' τ, Hp K dr os s' (z + d2 d) ((rg A 0 13).zip (itO (A 1 + 417) (Int.ofNat m + 1) :: j2 d.tg (T2 d told) r W q Y X F.w.params A (n2 d told r F.w.params (adr (rg A 0 13) z) τ x)) ++
        (((x2 d).map (adr (rg A 0 13) z)).zip (o2 d r W Y (adr (rg A 0 13) z) τ) ++ rest)) →
      GoodC (model PySem.Challenge.pw_rg0017_01 F.w) 30 none κ (loopC (F.kt F.w.params) 12 (.ref (A 0 + 417)) (A 3 + 417)) s') :
    GoodC (model PySem.Challenge.pw_rg0017_01 F.w) n none κ (loopC (F.kt F.w.params) 12 (.ref (A 0 + 417)) (A 3 + 417)) s := by
  refine Seg.step_c (S := k2 d told r m W q Y X) (rg A 0 13) x rfl (hR d told r m W q Y X hr (fun h g => (f.tab h g).1) (fun h => (f.out h).1)) H HK D rfl rfl rfl (Nat.le_of_ble_eq_true rfl) (by cases d <;> kernel_rfl) (fun τ K' O => u2_ok hA H O f) (fun _ => rfl) hI hn (fun s' τ E => ?_)
  refine good_again hI rfl (hk s' τ ?_)
  cases d <;> exact E
end Mine
end
section
set_option maxRecDepth 100000
set_option maxHeartbeats 4000000
namespace Mine
open PySem PySem.W PySem.W.X
noncomputable def sI110 (c : Bool) : List Nat := [0,19,19,19,19,20,20,21,21,0,19,1,0,0,0,0,1,0,0,0,1,1,0,2,3,0,0,0,0,3,0,0,0,3,3,0,4,0,0,0,1,19,19,19,1,0,0,0,0,1,0,0,0,1,1,0,2,3,0,0,0,0,3,0,0,0,3,3,0,4,0,5,5,0,5,30,0] ++ (match c with | false => [30,30,0,30,30] | true => []) ++ [30,0,30,30,30,5,30,30,32,32,32,6,6,6,0,6,6,32,6,6,6,0,6,6,0,32,6,6,6,0,6,6,20,21,0,2,32,6,6,6,0,6,6,0,31,31,31,31,30,0,30,30,30,5,30,30,40,32,32,32,19,23,0,0,0,0,23,0,23,0,23,0,0,0,23,0,22,22,22,0,19,1,0,0,0,0,1,0,0,0,1,1,0,2,3,0,0,0,0,3,0,0,0,3,3,0,4,0,20,21,0,3,19,23,0,0,0,0,23,0,23,0,23,0,0,0,23,0,22,22,22,20,15,0,0,0,0,15,0,0,0,15,15,0,16,19,1,0,0,0,0,1,0,0,0,1,1,0,2,3,0,0,0,0,3,0,0,0,3,3,0,4,0,19,23,0,0,0,0,23,0,23,0,23,0,0,0,23,0,22,22,22,19,1,0,0,0,0,1,0,0,0,1,1,0,2,3,0,0,0,0,3,0,0,0,3,3,0,4,0,19,23,0,0,0,0,23,0,23,0,23,0,0,0,23,0,22,22,22,19,1,0,0,0,0,1,0,0,0,1,1,0,2,3,0,0,0,0,3,0,0,0,3,3,0,4,0,19,19,19,0,0,19,23,0,0,0,0,23,0,0,0,23,23,0,22,31,31,0,31,42,0,42] ++ (match c with | false => [42,0,42,42,42] | true => []) ++ [0,42,42,42,31,42,42,44,44,44,38,38,38,0,38,38,36,0,0,0,0,36,0,0,0,36,36,0,35,0,15,0,0,0,0,15,0,0,0,15,15,0,16,0,0,43,43,43,43,42,0,42,42,42,31,42,42,46,44,44,44,0,0,43,4,47,48,48,0,48,48,19,23,0,0,0,0,23,0,0,0,23,23,0,22,19,23,0,0,0,0,23,0,0,0,23,23,0,22,9,0,0,0,0,9,0,0,0,9,9,0,10,0,11,0,0,0,0,11,0,0,0,11,11,0,12,0,19,19,0,19,1,0,0,0,0,1,0,0,0,1,1,0,2,19,19,23,0,0,0,0,23,0,0,0,23,23,0,22,19,19,17,0,0,0,0,17,0,0,0,17,17,0,18,0,0,5,19,19,19,51,0,0,0,0,51,0,51,0,51,0,0,0,51,0,50,50,50,19,51,0,0,0,0,51,0,51,0,51,0,0,0,51,0,50,50,50,19]
noncomputable def sI101 (c : Bool) : List Nat := [0,19,19,19,19,20,20,21,21,0,19,1,0,0,0,0,1,0,0,0,1,1,0,2,3,0,0,0,0,3,0,0,0,3,3,0,4,0,0,0,1,19,19,19,1,0,0,0,0,1,0,0,0,1,1,0,2,3,0,0,0,0,3,0,0,0,3,3,0,4,0,5,5,0,5,30,0] ++ (match c with | false => [30,30,0,30,30] | true => []) ++ [30,0,30,30,30,5,30,30,32,32,32,6,6,6,0,6,6,32,6,6,6,0,6,6,0,32,6,6,6,0,6,6,20,21,0,2,32,6,6,6,0,6,6,0,31,31,31,31,30,0,30,30,30,5,30,30,36,32,32,32,19,23,0,0,0,0,23,0,23,0,23,0,0,0,23,0,22,22,22,0,19,1,0,0,0,0,1,0,0,0,1,1,0,2,3,0,0,0,0,3,0,0,0,3,3,0,4,0,20,21,0,3,19,23,0,0,0,0,23,0,23,0,23,0,0,0,23,0,22,22,22,20,15,0,0,0,0,15,0,0,0,15,15,0,16,19,1,0,0,0,0,1,0,0,0,1,1,0,2,3,0,0,0,0,3,0,0,0,3,3,0,4,0,19,23,0,0,0,0,23,0,23,0,23,0,0,0,23,0,22,22,22,19,1,0,0,0,0,1,0,0,0,1,1,0,2,3,0,0,0,0,3,0,0,0,3,3,0,4,0,19,23,0,0,0,0,23,0,23,0,23,0,0,0,23,0,22,22,22,19,1,0,0,0,0,1,0,0,0,1,1,0,2,3,0,0,0,0,3,0,0,0,3,3,0,4,0,19,19,19,0,0,19,23,0,0,0,0,23,0,0,0,23,23,0,22,31,31,0,31,42,0,42] ++ (match c with | false => [42,0,42,42,42] | true => []) ++ [0,42,42,42,31,42,42,44,44,44,34,34,34,0,34,34,7,0,0,0,0,7,0,0,0,7,7,0,8,0,11,0,0,0,0,11,0,0,0,11,11,0,12,0,0,43,43,43,43,42,0,42,42,42,31,42,42,46,44,44,44,0,0,43,4,47,48,48,0,48,48,19,23,0,0,0,0,23,0,0,0,23,23,0,22,19,23,0,0,0,0,23,0,0,0,23,23,0,22,40,0,0,0,0,40,0,0,0,40,40,0,39,0,15,0,0,0,0,15,0,0,0,15,15,0,16,0,19,19,0,19,1,0,0,0,0,1,0,0,0,1,1,0,2,19,19,23,0,0,0,0,23,0,0,0,23,23,0,22,19,19,17,0,0,0,0,17,0,0,0,17,17,0,18,0,0,5,19,19,19,51,0,0,0,0,51,0,51,0,51,0,0,0,51,0,50,50,50,19,51,0,0,0,0,51,0,51,0,51,0,0,0,51,0,50,50,50,19]
noncomputable def sI111 (c : Bool) : List Nat := [0,19,19,19,19,20,20,21,21,0,19,1,0,0,0,0,1,0,0,0,1,1,0,2,3,0,0,0,0,3,0,0,0,3,3,0,4,0,0,0,1,19,19,19,1,0,0,0,0,1,0,0,0,1,1,0,2,3,0,0,0,0,3,0,0,0,3,3,0,4,0,5,5,0,5,30,0] ++ (match c with | false => [30,30,0,30,30] | true => []) ++ [30,0,30,30,30,5,30,30,32,32,32,6,6,6,0,6,6,32,6,6,6,0,6,6,0,32,6,6,6,0,6,6,20,21,0,2,32,6,6,6,0,6,6,0,31,31,31,31,30,0,30,30,30,5,30,30,40,32,32,32,19,23,0,0,0,0,23,0,23,0,23,0,0,0,23,0,22,22,22,0,19,1,0,0,0,0,1,0,0,0,1,1,0,2,3,0,0,0,0,3,0,0,0,3,3,0,4,0,20,21,0,3,19,23,0,0,0,0,23,0,23,0,23,0,0,0,23,0,22,22,22,20,15,0,0,0,0,15,0,0,0,15,15,0,16,19,1,0,0,0,0,1,0,0,0,1,1,0,2,3,0,0,0,0,3,0,0,0,3,3,0,4,0,19,23,0,0,0,0,23,0,23,0,23,0,0,0,23,0,22,22,22,19,1,0,0,0,0,1,0,0,0,1,1,0,2,3,0,0,0,0,3,0,0,0,3,3,0,4,0,19,23,0,0,0,0,23,0,23,0,23,0,0,0,23,0,22,22,22,19,1,0,0,0,0,1,0,0,0,1,1,0,2,3,0,0,0,0,3,0,0,0,3,3,0,4,0,19,19,19,0,0,19,23,0,0,0,0,23,0,0,0,23,23,0,22,31,31,0,31,46,0,46] ++ (match c with | false => [46,0,46,46,46] | true => []) ++ [0,46,46,46,31,46,46,48,48,48,38,38,38,0,38,38,36,0,0,0,0,36,0,0,0,36,36,0,35,0,15,0,0,0,0,15,0,0,0,15,15,0,16,0,0,47,47,47,47,46,0,46,46,46,31,46,46,50,48,48,48,0,0,47,4,51,52,52,0,52,52,19,23,0,0,0,0,23,0,0,0,23,23,0,22,19,23,0,0,0,0,23,0,0,0,23,23,0,22,44,0,0,0,0,44,0,0,0,44,44,0,43,0,15,0,0,0,0,15,0,0,0,15,15,0,16,0,19,19,0,19,1,0,0,0,0,1,0,0,0,1,1,0,2,19,19,23,0,0,0,0,23,0,0,0,23,23,0,22,19,19,17,0,0,0,0,17,0,0,0,17,17,0,18,0,0,5,19,19,19,55,0,0,0,0,55,0,55,0,55,0,0,0,55,0,54,54,54,19,55,0,0,0,0,55,0,55,0,55,0,0,0,55,0,54,54,54,19]
noncomputable def sI010 (c : Bool) : List Nat := [0,19,19,19,19,20,20,21,21,0,19,1,0,0,0,0,1,0,0,0,1,1,0,2,3,0,0,0,0,3,0,0,0,3,3,0,4,0,0,0,1,19,19,19,1,0,0,0,0,1,0,0,0,1,1,0,2,3,0,0,0,0,3,0,0,0,3,3,0,4,0,5,5,0,5,30,0] ++ (match c with | false => [30,30,0,30,30] | true => []) ++ [30,0,30,30,30,5,30,30,32,32,32,6,6,6,0,6,6,32,6,6,6,0,6,6,0,32,6,6,6,0,6,6,20,21,0,2,32,6,6,6,0,6,6,0,31,31,31,31,30,0,30,30,30,5,30,30,40,32,32,32,19,23,0,0,0,0,23,0,23,0,23,0,0,0,23,0,22,22,22,0,19,1,0,0,0,0,1,0,0,0,1,1,0,2,3,0,0,0,0,3,0,0,0,3,3,0,4,0,20,21,0,3,19,23,0,0,0,0,23,0,23,0,23,0,0,0,23,0,22,22,22,20,15,0,0,0,0,15,0,0,0,15,15,0,16,19,1,0,0,0,0,1,0,0,0,1,1,0,2,3,0,0,0,0,3,0,0,0,3,3,0,4,0,19,19,19,0,0,19,23,0,0,0,0,23,0,0,0,23,23,0,22,31,31,0,31,42,0] ++ (match c with | false => [42,42,0,42,42] | true => []) ++ [42,0,42,42,42,31,42,42,44,44,44,38,38,38,0,38,38,36,0,0,0,0,36,0,0,0,36,36,0,35,0,15,0,0,0,0,15,0,0,0,15,15,0,16,0,0,43,43,43,43,42,0,42,42,42,31,42,42,46,44,44,44,0,0,43,4,47,48,48,0,48,48,19,23,0,0,0,0,23,0,0,0,23,23,0,22,19,23,0,0,0,0,23,0,0,0,23,23,0,22,9,0,0,0,0,9,0,0,0,9,9,0,10,0,11,0,0,0,0,11,0,0,0,11,11,0,12,0,19,19,0,19,1,0,0,0,0,1,0,0,0,1,1,0,2,19,19,23,0,0,0,0,23,0,0,0,23,23,0,22,19,19,17,0,0,0,0,17,0,0,0,17,17,0,18,0,0,5,19,19,19,51,0,0,0,0,51,0,51,0,51,0,0,0,51,0,50,50,50,19,51,0,0,0,0,51,0,51,0,51,0,0,0,51,0,50,50,50,19]
noncomputable def sI001 (c : Bool) : List Nat := [0,19,19,19,19,20,20,21,21,0,19,1,0,0,0,0,1,0,0,0,1,1,0,2,3,0,0,0,0,3,0,0,0,3,3,0,4,0,0,0,1,19,19,19,1,0,0,0,0,1,0,0,0,1,1,0,2,3,0,0,0,0,3,0,0,0,3,3,0,4,0,5,5,0,5,30,0] ++ (match c with | false => [30,30,0,30,30] | true => []) ++ [30,0,30,30,30,5,30,30,32,32,32,6,6,6,0,6,6,32,6,6,6,0,6,6,0,32,6,6,6,0,6,6,20,21,0,2,32,6,6,6,0,6,6,0,31,31,31,31,30,0,30,30,30,5,30,30,36,32,32,32,19,23,0,0,0,0,23,0,23,0,23,0,0,0,23,0,22,22,22,0,19,1,0,0,0,0,1,0,0,0,1,1,0,2,3,0,0,0,0,3,0,0,0,3,3,0,4,0,20,21,0,3,19,23,0,0,0,0,23,0,23,0,23,0,0,0,23,0,22,22,22,20,15,0,0,0,0,15,0,0,0,15,15,0,16,19,1,0,0,0,0,1,0,0,0,1,1,0,2,3,0,0,0,0,3,0,0,0,3,3,0,4,0,19,19,19,0,0,19,23,0,0,0,0,23,0,0,0,23,23,0,22,31,31,0,31,42,0] ++ (match c with | false => [42,42,0,42,42] | true => []) ++ [42,0,42,42,42,31,42,42,44,44,44,34,34,34,0,34,34,7,0,0,0,0,7,0,0,0,7,7,0,8,0,11,0,0,0,0,11,0,0,0,11,11,0,12,0,0,43,43,43,43,42,0,42,42,42,31,42,42,46,44,44,44,0,0,43,4,47,48,48,0,48,48,19,23,0,0,0,0,23,0,0,0,23,23,0,22,19,23,0,0,0,0,23,0,0,0,23,23,0,22,40,0,0,0,0,40,0,0,0,40,40,0,39,0,15,0,0,0,0,15,0,0,0,15,15,0,16,0,19,19,0,19,1,0,0,0,0,1,0,0,0,1,1,0,2,19,19,23,0,0,0,0,23,0,0,0,23,23,0,22,19,19,17,0,0,0,0,17,0,0,0,17,17,0,18,0,0,5,19,19,19,51,0,0,0,0,51,0,51,0,51,0,0,0,51,0,50,50,50,19,51,0,0,0,0,51,0,51,0,51,0,0,0,51,0,50,50,50,19]
noncomputable def sI011 (c : Bool) : List Nat := [0,19,19,19,19,20,20,21,21,0,19,1,0,0,0,0,1,0,0,0,1,1,0,2,3,0,0,0,0,3,0,0,0,3,3,0,4,0,0,0,1,19,19,19,1,0,0,0,0,1,0,0,0,1,1,0,2,3,0,0,0,0,3,0,0,0,3,3,0,4,0,5,5,0,5,30,0] ++ (match c with | false => [30,30,0,30,30] | true => []) ++ [30,0,30,30,30,5,30,30,32,32,32,6,6,6,0,6,6,32,6,6,6,0,6,6,0,32,6,6,6,0,6,6,20,21,0,2,32,6,6,6,0,6,6,0,31,31,31,31,30,0,30,30,30,5,30,30,40,32,32,32,19,23,0,0,0,0,23,0,23,0,23,0,0,0,23,0,22,22,22,0,19,1,0,0,0,0,1,0,0,0,1,1,0,2,3,0,0,0,0,3,0,0,0,3,3,0,4,0,20,21,0,3,19,23,0,0,0,0,23,0,23,0,23,0,0,0,23,0,22,22,22,20,15,0,0,0,0,15,0,0,0,15,15,0,16,19,1,0,0,0,0,1,0,0,0,1,1,0,2,3,0,0,0,0,3,0,0,0,3,3,0,4,0,19,19,19,0,0,19,23,0,0,0,0,23,0,0,0,23,23,0,22,31,31,0,31,46,0] ++ (match c with | false => [46,46,0,46,46] | true => []) ++ [46,0,46,46,46,31,46,46,48,48,48,38,38,38,0,38,38,36,0,0,0,0,36,0,0,0,36,36,0,35,0,15,0,0,0,0,15,0,0,0,15,15,0,16,0,0,47,47,47,47,46,0,46,46,46,31,46,46,50,48,48,48,0,0,47,4,51,52,52,0,52,52,19,23,0,0,0,0,23,0,0,0,23,23,0,22,19,23,0,0,0,0,23,0,0,0,23,23,0,22,44,0,0,0,0,44,0,0,0,44,44,0,43,0,15,0,0,0,0,15,0,0,0,15,15,0,16,0,19,19,0,19,1,0,0,0,0,1,0,0,0,1,1,0,2,19,19,23,0,0,0,0,23,0,0,0,23,23,0,22,19,19,17,0,0,0,0,17,0,0,0,17,17,0,18,0,0,5,19,19,19,55,0,0,0,0,55,0,55,0,55,0,0,0,55,0,54,54,54,19,55,0,0,0,0,55,0,55,0,55,0,0,0,55,0,54,54,54,19]
noncomputable def sI (tg has gives c : Bool) : List Nat := match tg, has, gives with
  | true, true, false => sI110 c
  | true, true, true => sI111 c
  | true, false, _ => sI101 c
  | false, true, false => sI010 c
  | false, true, true => sI011 c
  | false, false, _ => sI001 c
/-- a type derived: number 72 -/
noncomputable def mdD (P : Params) (tg : Bool) (M : Vals) (ops : Value) : Obj := mkD P kT (rg M.t 0 3 ++ rg M.t 4 21) ([M.v 0, M.v 1, .int 72 (M.t 3)] ++ rg M.v 2 13 ++ [.bool tg] ++ rg M.v 15 6 ++ [ops]) 24
noncomputable def scD (P : Params) (S : Vals) (place : Value) : Obj := mkD P kC (rg S.t 0 11 ++ [S.t 12, S.t 13]) ([place] ++ rg S.v 0 9 ++ [.int 1 (S.t 11), S.v 9, S.v 10]) 13
noncomputable def wI (a W : Nat → Nat) : Nat → Nat := sel [(34, a 0), (33, a 1), (9, a 2), (8, a 3), (21, a 4), (20, a 5), (18, a 6), (17, a 7), (24, a 8), (23, a 9)] W
/-- entity, data, its parameters, its result; n, t, the derived one, scope -/
noncomputable def iO (P : Params) (tg : Bool) (r : Row) (W g : Nat → Nat) (place ops : Value) (X M S : Vals) (a : Nat → Nat) : List Obj := [
  inst 52 (a 1 + 417), entD P r (wI a W) (g 2) (X.s 0) (X.t 80), inst 31 (a 3 + 417), subD P r (wI a W), lO #[rf (a 5)] 0, parT r (wI a W),
  inst 244 (a 7 + 417), stD1 P r (yB (a 10) (a 12)), inst 244 (a 9 + 417), stD2 P r (yB (a 10) (a 12)),
  inst 223 (a 11 + 417), tyD P X 21 11 61 (X.v 33), inst 223 (a 13 + 417), tyD P X 46 34 71 (rf (g 0)), inst 223 (a 15 + 417), mdD P tg M ops, inst 331 (a 17 + 417), scD P S place]
noncomputable def Row.both (r : Row) : Bool := match r.has with | true => r.gives | false => false
noncomputable def eo (tg both : Bool) (j : Nat) : Nat := match tg, both with | true, false => j | true, true => j + 11 | false, false => j - 5 | false, true => j + 9
noncomputable def kx (both : Bool) (j : Nat) : Nat := match both with | true => j + 4 | false => j
noncomputable def n7 (X M : Vals) (b : Bool) : Tok := match b with | true => M.t 3 | false => X.t 24
/-- the new entity's dict -/
noncomputable def entN (P : Params) (tg : Bool) (r : Row) (S : Vals) (key res sub : Nat) (t : Nat → Tok) (num uniq home part : Value) (ready : Bool) : Obj :=
  let u (j : Nat) : Tok := t (eo tg r.both j)
  mkD P kE [u 101, u 103, u 105, u 107, u 109, u 111, u 114, u 117, u 119, u 122, u 124, u 126, u 128, u 130, u 132, u 134, u 136]
    [.str (.mk #[115, 117, 98]) (u 89), r.nv, rf key, rf res, rf sub, .int 1 (S.t 11), num, uniq, home, part, .none, .none, .bool ready, .bool true, .bool false, .bool true, .bool false] 17
noncomputable def resA (r : Row) (w N : Nat → Nat) : Nat := match r.gives, r.has with | true, true => N 25 | true, false => N 21 | false, _ => w 24
noncomputable def subN (P : Params) (tg : Bool) (r : Row) (w N : Nat → Nat) (t : Nat → Tok) : Obj := mkD P kS [t 7, t 9, t 11, t 13, t 15, t 17, t 20, t 23, t 25, t 27, t 29]
  [r.nv, rf (N 12), rf (resA r w N), rf (N 7), rf (N 8), rf (N 9), .int 0 (t 18), match tg with | true => .str r.op (r.w 75) | false => .str (.mk #[]) (t 21), match tg with | true => rf (w 30) | false => rf (N 10), .none, .none] 11
/-- what inherited_entity makes: N its addresses, t its tokens -/
noncomputable def newL (P : Params) (tg : Bool) (r : Row) (w : Nat → Nat) (made : Nat) (X M S : Vals) (N : Nat → Nat) (t : Nat → Tok) (num uniq home part : Value) (ready : Bool) : List (Nat × Obj) :=
  [(3, subN P tg r w N t), (4, inst 31 (N 3 + 417)), (7, lO #[] 0), (8, lO #[] 0), (9, lO #[] 0)] ++ (match tg with | true => [] | false => [(10, lO #[] 0)]) ++
  (match r.has with
    | true => [(12, lO #[rf (N 19)] 1), (16, mkD P kU [t (match tg with | true => 51 | false => 54), t (match tg with | true => 53 | false => 56)] [rf made, .none] 2), (17, inst 244 (N 16 + 417)), (19, tO #[.str (.mk #[120]) (r.w 110), .str (.mk #[105, 110]) (r.w 111), rf (N 17), .none])]
    | false => [(12, lO #[rf (N 15)] 1), (15, tO #[.str (.mk #[120]) (r.w 110), .str (.mk #[105, 110]) (r.w 111), rf (w 18), .none])]) ++
  (match r.gives, r.has with
    | true, true => [(24, mkD P kU [t (match tg with | true => 73 | false => 79), t (match tg with | true => 75 | false => 81)] [rf made, .none] 2), (25, inst 244 (N 24 + 417))]
    | true, false => [(20, mkD P kU [t (match tg with | true => 62 | false => 65), t (match tg with | true => 64 | false => 67)] [rf made, .none] 2), (21, inst 244 (N 20 + 417))]
    | false, _ => []) ++
  [(kx r.both 29, tO #[.int (in7 r.has) (n7 X M r.has)]), (kx r.both 30, tO #[rf (N (kx r.both 29)), .int (in7 r.gives) (n7 X M r.gives)]),
   (kx r.both 31, entN P tg r S (N (kx r.both 30)) (resA r w N) (N 4) t num uniq home part ready), (kx r.both 32, inst 52 (N (kx r.both 31) + 417))]
/-- the offsets of the same -/
noncomputable def newX (tg has gives : Bool) : List Nat := [3, 4, 7, 8, 9] ++ (match tg with | true => [] | false => [10]) ++ (match has with | true => [12, 16, 17, 19] | false => [12, 15]) ++
  (match gives, has with | true, true => [24, 25, 33, 34, 35, 36] | true, false => [20, 21, 29, 30, 31, 32] | false, _ => [29, 30, 31, 32])
noncomputable def tB (X : Vals) (b : Bool) : List Tok := match b with | true => rg X.t 46 25 | false => rg X.t 21 25
noncomputable def vB (X : Vals) (o : Value) (b : Bool) : List Value := match b with | true => rg X.v 34 22 ++ [o] | false => rg X.v 11 23
/-- changed_subtype's call -/
noncomputable def chUse (P : Params) (T : KT) (tg own : Bool) (σ τ : Nat → Nat) (m i st : Nat) (ts : List Tok) (o ops : Value) (X M : Vals) : Use := match own, tg with
  | false, _ => kChgS.use P T σ τ m i [st, st + 1, 10, 11, 12, 13] (vals (ts ++ tB X false ++ tB X true) [] [] [] [σ 14 + 417] [] [] [] [] ([.none] ++ vB X o false ++ vB X o true) [])
  | true, true => kChgT.use P T σ τ m i [st, st + 1, 12, 13, 14, 15] (vals (ts ++ tB X true ++ rg M.t 0 25) [] [] [] [] [] [] [] [] ([.none] ++ vB X o true ++ rg M.v 0 21 ++ [ops]) [])
  | true, false => kChgU.use P T σ τ m i [st, st + 1, 12, 13, 14, 15] (vals (ts ++ tB X true ++ rg M.t 0 25) [] [] [] [] [] [] [] [] (vB X o true ++ rg M.v 0 21 ++ [ops]) [])
noncomputable def uI (tg : Bool) (r : Row) (W g : Nat → Nat) (ops : Value) (X M S : Vals) (P : Params) (T : KT) (σ τ : Nat → Nat) (x : Vals) : List Use :=
  let both := r.both
  let k4 (j : Nat) : Nat := match both with | true => j + 4 | false => j
  let n (j : Nat) : Nat := σ (18 + j)
  [kSub.use P T σ τ 21 4 [] (vals [r.t 63] [nm r.k] [] [] [] [] [] [] [] [] []),
   chUse P T tg r.has σ τ 32 37 6 [r.w 117, r.w 119] (rf (g 0)) ops X M,
   chUse P T tg r.gives σ τ (match r.has with | true => 40 | false => 36) (match r.has, tg with | false, _ => 48 | true, true => 59 | true, false => 62) 8 [r.w 125, r.w 127] (rf (g 0)) ops X M,
   collUse σ (k4 46) (eo tg both 84) (k4 42) #[.int (in7 r.has) (n7 X M r.has)] 1,
   kEnt.use P T σ τ (k4 49) (eo tg both 93) [] (vals [τ (eo tg both 89), r.t 63, S.t 11] [.mk #[115, 117, 98], nm r.k] [1] [] [n (kx both 30) + 417, resA r (wI σ W) n + 417, n 4 + 417] [] [] [] [] [] [])]
noncomputable def eI (tg both : Bool) : Nat := match tg, both with | true, false => 142 | true, true => 153 | false, false => 137 | false, true => 151
noncomputable def kInh (tg : Bool) (r : Row) (W g : Nat → Nat) (place ops : Value) (X M S : Vals) : Seg := ⟨18, fun P T σ x => .code (.call (.ref 295) ⟨[rf (σ 16), rf (σ 0), rf (σ 14), rf (σ 12)], []⟩), fun P σ x => iO P tg r W g place ops X M S σ, List.range 18 ++ (newX tg r.has r.gives).map (18 + ·),
  fun P σ τ x => iO P tg r W g place ops X M S σ ++ (newL P tg r (wI σ W) (σ 14) X M S (fun j => σ (18 + j)) τ (.int 0 (τ (eo tg r.both 112))) (.str (.mk #[]) (τ (eo tg r.both 115))) .none (.str (.mk #[]) (τ (eo tg r.both 120))) false).map (·.2),
  fun P T σ τ x => .res (.ok (.ret (rf (σ (18 + kx r.both 32))))), kx r.both 34, eI tg r.both, 68, 76, fun c => match tg, c with | true, true => 916 | true, false => 936 | false, true => 785 | false, false => 805, fun c => sI tg r.has r.gives c, uI tg r W g ops X M S⟩
section
variable {F : Fix} {σ τ : Nat → Nat} {lim : Nat} {us : List Use} {K : Addr → Option Obj} {dr : Drawn} {os : OsState} {m₀ i₀ : Nat}
theorem ch_ok {tg own : Bool} {m i st : Nat} {ts : List Tok} {o ops : Value} {X M : Vals} (hA : AllRuns F.kt) (H : F.Ok) (O : VOk (F.vc σ τ 76 us K dr os m₀ i₀)) (hst : st = 6 ∨ st = 8) : UseOk (F.vc σ τ 76 us K dr os m₀ i₀) (chUse F.w.params (F.kt F.w.params) tg own σ τ m i st ts o ops X M) := by
  rcases hst with e | e <;> subst e <;> cases own <;> cases tg
  all_goals first
    | exact kChgS_ok (hkChgS := hA.hkChgS) (H := H) (O := O) (hlim := Nat.le_of_ble_eq_true rfl) (m := _) (i := _) (hnd := by decide) (hL := rfl)
    | exact kChgT_ok (hkChgT := hA.hkChgT) (hkWhole := hA.hkWhole) (H := H) (O := O) (hlim := Nat.le_of_ble_eq_true rfl) (m := _) (i := _) (hnd := by decide) (hL := rfl)
    | exact kChgU_ok (hkChgU := hA.hkChgU) (H := H) (O := O) (hlim := Nat.le_of_ble_eq_true rfl) (m := _) (i := _) (hnd := by decide) (hL := rfl)
theorem uI_ok {tg : Bool} {r : Row} {W g : Nat → Nat} {ops : Value} {X M S x : Vals} (hA : AllRuns F.kt) (H : F.Ok) (O : VOk (F.vc σ τ 76 (uI tg r W g ops X M S F.w.params (F.kt F.w.params) σ τ x) K dr os m₀ i₀)) :
    UsesOk (F.vc σ τ 76 (uI tg r W g ops X M S F.w.params (F.kt F.w.params) σ τ x) K dr os m₀ i₀) := uses_all (
  all_cons (kSub_ok (hkSub := hA.hkSub) (H := H) (O := O) (hlim := Nat.le_of_ble_eq_true rfl) (m := _) (i := _) (hnd := by decide) (hL := rfl)) <|
  all_cons (ch_ok hA H O (.inl rfl)) <|
  all_cons (ch_ok hA H O (.inr rfl)) <|
  all_cons (coll_use O _ _ _ (Nat.le_of_ble_eq_true rfl)) <|
  all_cons (kEnt_ok (hkEnt := hA.hkEnt) (H := H) (O := O) (hlim := Nat.le_of_ble_eq_true rfl) (m := _) (i := _) (hnd := by decide) (hL := rfl)) <|
  all_nil)
noncomputable def RI (kt : Params → KT) : Prop := ∀ tg r W g place ops X M S, r.Ok → (kInh tg r W g place ops X M S).Run kt
theorem kInh_ok {tg : Bool} {r : Row} {W g : Nat → Nat} {place ops : Value} {X M S : Vals} (hR : RI F.kt) (hA : AllRuns F.kt) (H : F.Ok) (O : VOk (F.vc σ τ lim us K dr os m₀ i₀)) (hlim : lim ≤ 68) (hr : r.Ok) (m i : Nat) {js : List Nat} (hnd : js.Nodup) (hL : js.length = 18) {x : Vals} :
    UseOk (F.vc σ τ lim us K dr os m₀ i₀) ((kInh tg r W g place ops X M S).use F.w.params (F.kt F.w.params) σ τ m i js x) :=
  Seg.useOk (hR tg r W g place ops X M S hr) H O hnd hL rfl (show 18 ≤ 1000 by decide) (fun y hy => List.mem_append_left _ (List.mem_range.mpr hy)) hlim ⟨_, rfl⟩ ⟨_, rfl⟩ fun K' O' => uI_ok (x := x) hA H O'
end
end Mine
end
section
set_option maxRecDepth 100000
namespace Mine
open PySem PySem.W PySem.W.X
noncomputable def lookL : List DictEntry → Str → Option Value
  | [], _ => none
  | e :: l, x => match e.key.isStr x with | true => some e.val | false => lookL l x
noncomputable def setL : List DictEntry → Str → Value → List DictEntry
  | [], _, _ => []
  | e :: l, x, v => match e.key.isStr x with | true => { e with val := v } :: l | false => e :: setL l x v
theorem lookS_toList (es : Array DictEntry) (x : Str) : lookS es x = lookL es.toList x := by
  obtain ⟨l⟩ := es
  unfold lookS
  induction l with
  | nil => simp [lookL]
  | cons e l ih =>
    simp only [List.findIdx?_toArray, List.findIdx?_cons] at ih ⊢
    cases h : e.key.isStr x with
    | true => simp [lookL, h]
    | false =>
      simp only [lookL, h]
      rw [← ih]
      cases l.findIdx? (fun e => e.key.isStr x) <;> simp
theorem setE_toList (es : Array DictEntry) (x : Str) (v : Value) : (setE es x v).toList = setL es.toList x v := by
  obtain ⟨l⟩ := es
  unfold setE
  induction l with
  | nil => simp [setL]
  | cons e l ih =>
    simp only [List.findIdx?_toArray, List.findIdx?_cons] at ih ⊢
    cases h : e.key.isStr x with
    | true => simp [setL, h]
    | false =>
      simp only [setL, h]
      rw [← ih]
      cases l.findIdx? (fun e => e.key.isStr x) <;> simp
theorem isStr_str (y x : Str) (t : Tok) : (Value.str y t).isStr x = (y == x) := rfl
theorem ent_isStr (P : Params) (y x : Str) (t : Tok) (v : Value) : (ent P y t v).key.isStr x = (y == x) := rfl
theorem lookL_append (l m : List DictEntry) (x : Str) : lookL (l ++ m) x = (lookL l x).or (lookL m x) := by
  induction l with
  | nil => simp [lookL]
  | cons e l ih =>
    simp only [List.cons_append, lookL]
    cases e.key.isStr x <;> simp [ih]
theorem look_push (es : Array DictEntry) (P : Params) (y x : Str) (t : Tok) (v : Value) : lookS (es.push (ent P y t v)) x = (lookS es x).or (match y == x with | true => some v | false => none) := by
  rw [lookS_toList, lookS_toList, Array.toList_push, lookL_append]
  congr 1
theorem look_push_same {es : Array DictEntry} {P : Params} {x : Str} {t : Tok} {v : Value} (h : lookS es x = none) : lookS (es.push (ent P x t v)) x = some v := by
  rw [look_push, h]; simp
theorem look_push_ne {es : Array DictEntry} {P : Params} {y x : Str} {t : Tok} {v : Value} (h : (y == x) = false) : lookS (es.push (ent P y t v)) x = lookS es x := by
  rw [look_push, h]; simp
theorem lookL_set (l : List DictEntry) (y x : Str) (v : Value) (h : ∀ e ∈ l, isExactStrKey e.key = true) : lookL (setL l y v) x = match y == x with | true => (lookL l x).map fun _ => v | false => lookL l x := by
  induction l with
  | nil => cases y == x <;> rfl
  | cons e l ih =>
    have ih := ih fun e he => h e (List.mem_cons_of_mem _ he)
    have hk := h e List.mem_cons_self
    obtain ⟨ha, k, va⟩ := e
    cases k with
    | str z t =>
      simp only [setL, lookL, isStr_str]
      cases hzy : z == y with
      | true =>
        have := eq_of_beq hzy
        subst this
        simp only [lookL, isStr_str]
        cases hzx : z == x <;> simp
      | false =>
        simp only [lookL, isStr_str]
        cases hzx : z == x with
        | true =>
          have := eq_of_beq hzx
          subst this
          have : (y == z) = false := by
            cases q : y == z with
            | false => rfl
            | true => have := eq_of_beq q; subst this; simp at hzy
          simp [this]
        | false => simp only [ih]
    | _ => cases hk
theorem allS_mem {es : Array DictEntry} (h : AllStr es) : ∀ e ∈ es.toList, isExactStrKey e.key = true := fun e he => by
  unfold AllStr at h
  rw [Array.all_eq_true'] at h
  exact h e (Array.mem_def.mpr he)
theorem allS_of {es : Array DictEntry} (h : ∀ e ∈ es.toList, isExactStrKey e.key = true) : AllStr es := by
  unfold AllStr
  rw [Array.all_eq_true']
  exact fun e he => h e (Array.mem_def.mp he)
theorem look_setE {es : Array DictEntry} (h : AllStr es) (y x : Str) (v : Value) : lookS (setE es y v) x = match y == x with | true => (lookS es x).map fun _ => v | false => lookS es x := by
  rw [lookS_toList, setE_toList, lookL_set _ _ _ _ (allS_mem h), lookS_toList]
theorem look_setE_same {es : Array DictEntry} (h : AllStr es) {x : Str} {v : Value} (k : (lookS es x).isSome = true) : lookS (setE es x v) x = some v := by
  rw [look_setE h]
  obtain ⟨w, e⟩ := Option.isSome_iff_exists.mp k
  rw [e]; simp
theorem look_setE_ne {es : Array DictEntry} (h : AllStr es) {y x : Str} {v : Value} (k : (y == x) = false) : lookS (setE es y v) x = lookS es x := by
  rw [look_setE h, k]
theorem look_setE_some {es : Array DictEntry} (h : AllStr es) {y x : Str} {v : Value} (k : (lookS es x).isSome = true) : (lookS (setE es y v) x).isSome = true := by
  rw [look_setE h]
  cases y == x <;> simp [k]
theorem setL_mem {l : List DictEntry} {x : Str} {v : Value} : ∀ e ∈ setL l x v, ∃ e' ∈ l, e.key = e'.key := by
  induction l with
  | nil => intro e he; cases he
  | cons a l ih =>
    intro e he
    unfold setL at he
    cases h : a.key.isStr x with
    | true =>
      rw [h] at he
      rcases List.mem_cons.mp he with rfl | he
      · exact ⟨a, List.mem_cons_self, rfl⟩
      · exact ⟨e, List.mem_cons_of_mem _ he, rfl⟩
    | false =>
      rw [h] at he
      rcases List.mem_cons.mp he with rfl | he
      · exact ⟨e, List.mem_cons_self, rfl⟩
      · obtain ⟨e', h1, h2⟩ := ih e he
        exact ⟨e', List.mem_cons_of_mem _ h1, h2⟩
theorem setL_length (l : List DictEntry) (x : Str) (v : Value) : (setL l x v).length = l.length := by
  induction l with
  | nil => rfl
  | cons a l ih =>
    unfold setL
    cases a.key.isStr x <;> simp [ih]
theorem allS_setE {es : Array DictEntry} (h : AllStr es) (x : Str) (v : Value) : AllStr (setE es x v) := allS_of fun e he => by
  rw [setE_toList] at he
  obtain ⟨e', h1, h2⟩ := setL_mem e he
  rw [h2]; exact allS_mem h e' h1
theorem size_setE (es : Array DictEntry) (x : Str) (v : Value) : (setE es x v).size = es.size := by
  rw [← Array.length_toList, setE_toList, setL_length, Array.length_toList]
theorem allS_push {es : Array DictEntry} (h : AllStr es) (P : Params) (x : Str) (t : Tok) (v : Value) : AllStr (es.push (ent P x t v)) := allS_of fun e he => by
  rw [Array.toList_push] at he
  rcases List.mem_append.mp he with he | he
  · exact allS_mem h e he
  · rw [List.mem_singleton.mp he]; rfl
end Mine
end
section
set_option maxRecDepth 100000
set_option maxHeartbeats 4000000
namespace Mine
open PySem PySem.W PySem.W.X
noncomputable def sD0 : List Nat := [0,27,27,27,27,27,27,27,27,27,1,0,0,0,0,1,0,0,0,1,1,0,2,3,0,0,0,0,3,0,0,0,3,3,0,4,0,27,27,27,1,0,0,0,0,1,0,0,0,1,1,0,2,3,0,0,0,0,3,0,0,0,3,3,0,4,0,27,1,0,0,0,0,1,0,0,0,1,1,0,2,3,0,0,0,0,3,0,0,0,3,3,0,4,0,9,0,0,0,0,9,0,0,0,9,9,0,10,0,11,0,0,0,0,11,0,0,0,11,11,0,12,0,27,13,0,0,0,0,13,0,0,0,13,13,0,14,1,27,27,27,15,0,0,0,0,15,0,0,0,15,15,0,16,27,0,27,0,2,0,27,27,27,27,0,3,27,27,0,27,17,0,0,0,0,17,0,0,0,17,17,0,18,27,0,4,27,15,0,0,0,0,15,0,0,0,15,15,0,16,27,27,1,0,0,0,0,1,0,0,0,1,1,0,2,27,61,0,0,0,0,61,0,61,0,61,0,0,0,61,0,60,60,60,27,1,0,0,0,0,1,0,0,0,1,1,0,2,27,61,0,0,0,0,61,0,61,0,61,0,0,0,61,0,60,60,60,27,61,0,0,0,0,61,0,0,0,61,61,0,60,0,27,17,0,0,0,0,17,0,0,0,17,17,0,18,27,0,0,0,92,92,92,92,92,19,0,0,0,0,19,0,0,0,19,19,0,20,92,61,0,0,0,0,61,0,0,0,61,61,0,60,24,24,24,5,0,90,90,0,90,93,0,93,0,93,93,93,90,93,93,92,92,92,61,0,0,0,0,61,0,0,0,61,61,0,60,6,92,61,0,0,0,0,61,0,0,0,61,61,0,60,92,61,0,0,0,0,61,0,0,0,61,61,0,60,93,0,93,93,93,90,93,93,95]
noncomputable def sD1 : List Nat := [0,27,27,27,27,27,27,27,27,27,1,0,0,0,0,1,0,0,0,1,1,0,2,3,0,0,0,0,3,0,0,0,3,3,0,4,0,27,27,27,1,0,0,0,0,1,0,0,0,1,1,0,2,3,0,0,0,0,3,0,0,0,3,3,0,4,0,27,1,0,0,0,0,1,0,0,0,1,1,0,2,3,0,0,0,0,3,0,0,0,3,3,0,4,0,9,0,0,0,0,9,0,0,0,9,9,0,10,0,13,0,0,0,0,13,0,0,0,13,13,0,14,0,27,13,0,0,0,0,13,0,0,0,13,13,0,14,1,27,27,27,15,0,0,0,0,15,0,0,0,15,15,0,16,27,27,2,28,28,28,0,28,28,0,27,1,0,0,0,0,1,0,0,0,1,1,0,2,3,0,27,0,4,0,27,27,27,27,0,5,27,27,0,27,17,0,0,0,0,17,0,0,0,17,17,0,18,27,0,6,27,15,0,0,0,0,15,0,0,0,15,15,0,16,27,27,27,15,0,0,0,0,15,0,0,0,15,15,0,16,26,26,7,27,62,0,0,0,0,62,0,0,0,62,62,0,61,27,15,0,0,0,0,15,0,0,0,15,15,0,16,27,26,26,8,27,1,0,0,0,0,1,0,0,0,1,1,0,2,27,62,0,0,0,0,62,0,62,0,62,0,0,0,62,0,61,61,61,27,1,0,0,0,0,1,0,0,0,1,1,0,2,27,62,0,0,0,0,62,0,62,0,62,0,0,0,62,0,61,61,61,27,62,0,0,0,0,62,0,0,0,62,62,0,61,0,27,17,0,0,0,0,17,0,0,0,17,17,0,18,27,0,0,0,93,93,93,93,93,19,0,0,0,0,19,0,0,0,19,19,0,20,93,62,0,0,0,0,62,0,0,0,62,62,0,61,24,24,24,9,0,91,91,0,91,94,0,94,0,94,94,94,91,94,94,93,93,93,62,0,0,0,0,62,0,0,0,62,62,0,61,10,93,62,0,0,0,0,62,0,0,0,62,62,0,61,93,62,0,0,0,0,62,0,0,0,62,62,0,61,94,0,94,94,94,91,94,94,96]
noncomputable def sD2 : List Nat := [0,27,27,27,27,27,27,27,27,27,1,0,0,0,0,1,0,0,0,1,1,0,2,3,0,0,0,0,3,0,0,0,3,3,0,4,0,27,27,27,1,0,0,0,0,1,0,0,0,1,1,0,2,3,0,0,0,0,3,0,0,0,3,3,0,4,0,27,1,0,0,0,0,1,0,0,0,1,1,0,2,3,0,0,0,0,3,0,0,0,3,3,0,4,0,9,0,0,0,0,9,0,0,0,9,9,0,10,0,13,0,0,0,0,13,0,0,0,13,13,0,14,0,27,13,0,0,0,0,13,0,0,0,13,13,0,14,1,27,27,27,15,0,0,0,0,15,0,0,0,15,15,0,16,27,27,2,28,28,28,0,28,28,0,27,1,0,0,0,0,1,0,0,0,1,1,0,2,3,0,27,0,4,0,27,27,27,27,0,5,27,27,0,27,17,0,0,0,0,17,0,0,0,17,17,0,18,27,0,6,27,15,0,0,0,0,15,0,0,0,15,15,0,16,27,27,27,15,0,0,0,0,15,0,0,0,15,15,0,16,26,26,7,27,66,0,0,0,0,66,0,0,0,66,66,0,65,27,15,0,0,0,0,15,0,0,0,15,15,0,16,27,26,26,8,27,1,0,0,0,0,1,0,0,0,1,1,0,2,27,66,0,0,0,0,66,0,66,0,66,0,0,0,66,0,65,65,65,27,1,0,0,0,0,1,0,0,0,1,1,0,2,27,66,0,0,0,0,66,0,66,0,66,0,0,0,66,0,65,65,65,27,66,0,0,0,0,66,0,0,0,66,66,0,65,0,27,17,0,0,0,0,17,0,0,0,17,17,0,18,27,0,0,0,97,97,97,97,97,19,0,0,0,0,19,0,0,0,19,19,0,20,97,66,0,0,0,0,66,0,0,0,66,66,0,65,24,24,24,9,0,95,95,0,95,98,0,98,0,98,98,98,95,98,98,97,97,97,66,0,0,0,0,66,0,0,0,66,66,0,65,10,97,66,0,0,0,0,66,0,0,0,66,66,0,65,97,66,0,0,0,0,66,0,0,0,66,66,0,65,98,0,98,98,98,95,98,98,100]
noncomputable def sD3 : List Nat := [0,27,27,27,27,27,27,27,27,27,1,0,0,0,0,1,0,0,0,1,1,0,2,3,0,0,0,0,3,0,0,0,3,3,0,4,0,27,27,27,1,0,0,0,0,1,0,0,0,1,1,0,2,3,0,0,0,0,3,0,0,0,3,3,0,4,0,27,1,0,0,0,0,1,0,0,0,1,1,0,2,3,0,0,0,0,3,0,0,0,3,3,0,4,0,9,0,0,0,0,9,0,0,0,9,9,0,10,0,11,0,0,0,0,11,0,0,0,11,11,0,12,0,27,13,0,0,0,0,13,0,0,0,13,13,0,14,1,27,27,27,15,0,0,0,0,15,0,0,0,15,15,0,16,0,27,0,2,0,27,27,27,27,0,3,27,27,0,27,17,0,0,0,0,17,0,0,0,17,17,0,18,27,0,4,27,15,0,0,0,0,15,0,0,0,15,15,0,16,27,1,0,0,0,0,1,0,0,0,1,1,0,2,27,61,0,0,0,0,61,0,61,0,61,0,0,0,61,0,60,60,60,27,1,0,0,0,0,1,0,0,0,1,1,0,2,27,61,0,0,0,0,61,0,61,0,61,0,0,0,61,0,60,60,60,27,61,0,0,0,0,61,0,0,0,61,61,0,60,0,27,17,0,0,0,0,17,0,0,0,17,17,0,18,27,0,0,0,92,92,92,92,92,19,0,0,0,0,19,0,0,0,19,19,0,20,92,61,0,0,0,0,61,0,0,0,61,61,0,60,24,24,24,5,0,90,90,0,90,93,0,93,0,93,93,93,90,93,93,92,92,92,61,0,0,0,0,61,0,0,0,61,61,0,60,6,92,61,0,0,0,0,61,0,0,0,61,61,0,60,92,61,0,0,0,0,61,0,0,0,61,61,0,60,93,0,93,93,93,90,93,93,95]
noncomputable def sD4 : List Nat := [0,27,27,27,27,27,27,27,27,27,1,0,0,0,0,1,0,0,0,1,1,0,2,3,0,0,0,0,3,0,0,0,3,3,0,4,0,27,27,27,1,0,0,0,0,1,0,0,0,1,1,0,2,3,0,0,0,0,3,0,0,0,3,3,0,4,0,27,1,0,0,0,0,1,0,0,0,1,1,0,2,3,0,0,0,0,3,0,0,0,3,3,0,4,0,9,0,0,0,0,9,0,0,0,9,9,0,10,0,13,0,0,0,0,13,0,0,0,13,13,0,14,0,27,13,0,0,0,0,13,0,0,0,13,13,0,14,1,27,27,27,15,0,0,0,0,15,0,0,0,15,15,0,16,0,27,0,2,0,27,27,27,27,0,3,27,27,0,27,17,0,0,0,0,17,0,0,0,17,17,0,18,27,0,4,27,15,0,0,0,0,15,0,0,0,15,15,0,16,27,1,0,0,0,0,1,0,0,0,1,1,0,2,27,61,0,0,0,0,61,0,61,0,61,0,0,0,61,0,60,60,60,27,1,0,0,0,0,1,0,0,0,1,1,0,2,27,61,0,0,0,0,61,0,61,0,61,0,0,0,61,0,60,60,60,27,61,0,0,0,0,61,0,0,0,61,61,0,60,0,27,17,0,0,0,0,17,0,0,0,17,17,0,18,27,0,0,0,92,92,92,92,92,19,0,0,0,0,19,0,0,0,19,19,0,20,92,61,0,0,0,0,61,0,0,0,61,61,0,60,24,24,24,5,0,90,90,0,90,93,0,93,0,93,93,93,90,93,93,92,92,92,61,0,0,0,0,61,0,0,0,61,61,0,60,6,92,61,0,0,0,0,61,0,0,0,61,61,0,60,92,61,0,0,0,0,61,0,0,0,61,61,0,60,93,0,93,93,93,90,93,93,95]
noncomputable def sD5 : List Nat := [0,27,27,27,27,27,27,27,27,27,1,0,0,0,0,1,0,0,0,1,1,0,2,3,0,0,0,0,3,0,0,0,3,3,0,4,0,27,27,27,1,0,0,0,0,1,0,0,0,1,1,0,2,3,0,0,0,0,3,0,0,0,3,3,0,4,0,27,1,0,0,0,0,1,0,0,0,1,1,0,2,3,0,0,0,0,3,0,0,0,3,3,0,4,0,9,0,0,0,0,9,0,0,0,9,9,0,10,0,13,0,0,0,0,13,0,0,0,13,13,0,14,0,27,13,0,0,0,0,13,0,0,0,13,13,0,14,1,27,27,27,15,0,0,0,0,15,0,0,0,15,15,0,16,0,27,0,2,0,27,27,27,27,0,3,27,27,0,27,17,0,0,0,0,17,0,0,0,17,17,0,18,27,0,4,27,15,0,0,0,0,15,0,0,0,15,15,0,16,27,1,0,0,0,0,1,0,0,0,1,1,0,2,27,65,0,0,0,0,65,0,65,0,65,0,0,0,65,0,64,64,64,27,1,0,0,0,0,1,0,0,0,1,1,0,2,27,65,0,0,0,0,65,0,65,0,65,0,0,0,65,0,64,64,64,27,65,0,0,0,0,65,0,0,0,65,65,0,64,0,27,17,0,0,0,0,17,0,0,0,17,17,0,18,27,0,0,0,96,96,96,96,96,19,0,0,0,0,19,0,0,0,19,19,0,20,96,65,0,0,0,0,65,0,0,0,65,65,0,64,24,24,24,5,0,94,94,0,94,97,0,97,0,97,97,97,94,97,97,96,96,96,65,0,0,0,0,65,0,0,0,65,65,0,64,6,96,65,0,0,0,0,65,0,0,0,65,65,0,64,96,65,0,0,0,0,65,0,0,0,65,65,0,64,97,0,97,97,97,94,97,97,99]
noncomputable def sD (tg has gives : Bool) : List Nat := match tg, has, gives with
  | true, true, false => sD0
  | true, true, true => sD2
  | true, false, _ => sD1
  | false, true, false => sD3
  | false, true, true => sD5
  | false, false, _ => sD4
/-- the region into which is inherited -/
noncomputable def qD (P : Params) (Q : Vals) (root names order : Nat) : Obj := mkD P kR ([Q.t 0] ++ rg Q.t 2 7 ++ rg Q.t 10 7) ([.str (.mk #[112, 97, 99, 107, 97, 103, 101]) (Q.t 1), Q.v 0, rf root, rf root, Q.v 1, Q.v 2, Q.v 3, .str (Q.s 0) (Q.t 9), rf names, rf order] ++ rg Q.v 4 5) 15
noncomputable def inhS : Str := .mk #[35, 105, 110, 104, 101, 114, 105, 116, 101, 100]
/-- scope's region, root, counts, names, order, operations -/
noncomputable def dO8 (P : Params) (X Q : Vals) (a : Nat → Nat) (x : Vals) : List Obj := [
  inst 141 (a 19 + 417), qD P Q (a 20) (a 23) (a 24), inst 141 (a 21 + 417), rootD P X (x.i 0) (x.t 0) (a 22), dO (x.e 0) (x.n 0), dO (x.e 1) (x.n 1), lO (x.a 1) (x.n 101), dO (x.e 2) (x.n 2)]
noncomputable def jD (P : Params) (tg : Bool) (r : Row) (W g : Nat → Nat) (X M S Q : Vals) (a : Nat → Nat) (x : Vals) : List Obj :=
  iO P tg r W g (rf (a 18)) (rf (a 25)) X M S a ++ dO8 P X Q a x
noncomputable def mk3 (tg gives : Bool) : Bool := match tg with | true => gives | false => false
noncomputable def b0 (tg gives : Bool) : Nat := match mk3 tg gives with | true => 3 | false => 2
noncomputable def t0 (tg gives : Bool) : Nat := match mk3 tg gives with | true => 33 | false => 27
noncomputable def bD (tg has gives : Bool) : Nat := b0 tg gives + (match has, gives with | true, true => 38 | _, _ => 34)
noncomputable def tD (tg has gives : Bool) : Nat := t0 tg gives + eI tg (match has with | true => gives | false => false) + 2
noncomputable def nD (tg : Bool) (r : Row) (P : Params) (N τ : Nat → Nat) (x : Vals) : Vals :=
  let u (j : Nat) : Tok := τ (tD tg r.has r.gives + j)
  { t := fun j => match j with | 0 => u 15 | 1 => τ (t0 tg r.gives - 3) | j => x.t j
    s := x.s
    i := fun j => match j with | 0 => x.i 0 + 1 | 1 => x.i 1 + 1 | j => x.i j
    b := x.b
    r := x.r
    a := fun j => match j with | 1 => (x.a 1).push (rf (N (b0 tg r.gives + kx r.both 32))) | j => x.a j
    e := fun j => match j with
      | 0 => setE (setE (x.e 0) inhS (.int (x.i 1 + 1) (τ (t0 tg r.gives - 3)))) (nm r.k) (.int 2 (u 44))
      | 1 => (x.e 1).push (ent P (nm r.k) (r.t 63) (rf (N (bD tg r.has r.gives + 27))))
      | 2 => (match mk3 tg r.gives with | true => setE (x.e 2) r.op (.str (.mk #[]) (u 68)) | false => x.e 2)
      | j => x.e j
    n := fun j => match j with | 1 => x.n 1 + 1 | j => match Nat.beq j 101 with | true => x.n 101 + 1 | false => x.n j
    v := x.v }
/-- what declare_inherited makes -/
noncomputable def newD (P : Params) (tg : Bool) (r : Row) (w : Nat → Nat) (made p : Nat) (X M S Q : Vals) (N τ : Nat → Nat) (x : Vals) : List Obj :=
  (newL P tg r w made X M S (fun j => N (b0 tg r.gives + j)) (fun j => τ (t0 tg r.gives + j)) (.int (x.i 0 + 1) (τ (tD tg r.has r.gives + 15))) r.nv (rf p) (.str (Q.s 0) (Q.t 9)) true).map (·.2) ++
  [lO #[rf (N (b0 tg r.gives + kx r.both 32))] 1]
noncomputable def newY (tg has gives : Bool) : List Nat := (newX tg has gives).map (b0 tg gives + ·) ++ [bD tg has gives + 27]
/-- count_implicit's call -/
noncomputable def vC (S Q X x : Vals) (a : Nat → Nat) : Vals := vals (rg S.t 0 11 ++ [S.t 12, S.t 13, Q.t 0] ++ rg Q.t 2 7 ++ rg Q.t 10 7 ++ [X.t 88] ++ rg X.t 90 4 ++ rg X.t 95 10 ++ [x.t 1]) [] [x.i 1] [] [] [x.e 0] [] [x.n 0] []
  (rg S.v 0 9 ++ [.int 1 (S.t 11), S.v 9, S.v 10, .str (.mk #[112, 97, 99, 107, 97, 103, 101]) (Q.t 1), Q.v 0, rf (a 20), Q.v 1, Q.v 2, Q.v 3, .str (Q.s 0) (Q.t 9), rf (a 23), rf (a 24)] ++ rg Q.v 4 5 ++ [.str (.mk #[114, 111, 111, 116]) (X.t 89), X.v 65, X.v 66, X.v 67, .int (x.i 0) (x.t 0)] ++ rg X.v 68 9) []
/-- declare_ready's call; N, τ: inherited_entity's -/
noncomputable def vQ (tg : Bool) (r : Row) (w N τ : Nat → Nat) (S Q X x : Vals) (cnt : Tok) : Vals :=
  let u (j : Nat) : Tok := τ (eo tg r.both j)
  vals ([u 101, u 89, u 103, r.t 63, u 105, u 107, u 109, u 111, u 114, u 117, u 119, u 122, u 124, u 126, u 128, u 130, u 132, u 134, u 136] ++ rg Q.t 0 17 ++ rg X.t 88 6 ++ [x.t 0] ++ rg X.t 95 10 ++ [x.t 2]) [Q.s 0] [x.i 0] [] [] [x.e 1, setE (x.e 0) inhS (.int (x.i 1 + 1) cnt)] [x.a 1] [x.n 1, x.n 0] [x.n 101]
   ([rf (N (kx r.both 30)), rf (resA r w N), rf (N 4), .int 1 (S.t 11), .int 0 (u 112), .str (.mk #[]) (u 115), .none, .str (.mk #[]) (u 120), .none, .none, .bool false, .bool true, .bool false, .bool true, .bool false] ++ rg Q.v 0 9 ++ [X.v 65, X.v 66, X.v 67] ++ rg X.v 68 9) [r.k]
noncomputable def uD (tg : Bool) (r : Row) (W g : Nat → Nat) (X M S Q : Vals) (P : Params) (T : KT) (σ τ : Nat → Nat) (x : Vals) : List Use :=
  let m := mk3 tg r.gives
  let n (j : Nat) : Nat := σ (26 + b0 tg r.gives + j)
  let D := 26 + bD tg r.has r.gives
  let t := tD tg r.has r.gives
  let u (j : Nat) : Tok := τ (t0 tg r.gives + j)
  let cnt := τ (t0 tg r.gives - 3)
  let names := (x.e 1).push (ent P (nm r.k) (r.t 63) (rf (σ (D + 27))))
  (match r.gives with
    | true => cmpUse "int.__eq__" 27 14 (.int 71 (X.t 49)) (.int 71 (X.t 49)) true
    | false => cmpUse "int.__eq__" 27 14 (.int 61 (X.t 24)) (.int 71 (X.t 49)) false) ::
  (match m with
    | true => [(kSp r.has r.k).use P T σ τ 27 17 [] (vals [r.w 75, τ 16] [] [] [] [] [] [] [] [] [] []), cmpUse "str.__ne__" 28 22 (.str (nm r.k) (τ 17)) (.str (nm r.k) (r.t 63)) false]
    | false => []) ++
  kCnt.use P T σ τ (match m with | true => 28 | false => 27) (match m with | true => 22 | false => 16) [16, 17, 18, 19, 20, 21, 22] (vC S Q X x σ) ::
  (kInh tg r W g (rf (σ 18)) (rf (σ 25)) X M S).use P T σ τ (26 + b0 tg r.gives) (t0 tg r.gives) (List.range 18) v0 ::
  kDeclQ.use P T σ τ D t [26 + b0 tg r.gives + kx r.both 32, 26 + b0 tg r.gives + kx r.both 31, 18, 19, 23, 20, 21, 22, 24] (vQ tg r (wI σ W) n u S Q X x cnt) ::
  (match m with
    | true => [dhasUse σ (D + 29) (t + 66) 25 (x.e 2) (x.n 2) r.op (r.w 75) true, doldUse σ (D + 29) (t + 70) 25 (x.e 2) (x.n 2) r.op (r.w 75) (.str (.mk #[]) (τ (t + 68))),
        ditemUse σ (D + 30) (t + 83) 23 names (x.n 1 + 1) (nm r.k) (r.t 63) (rf (σ (D + 27))), cmpUse "str.__eq__" (D + 31) (t + 87) (.str (.mk #[115, 117, 98]) (u (eo tg r.both 89))) (.str (.mk #[115, 117, 98]) (τ (t + 86))) true]
    | false => [ditemUse σ (D + 30) (t + 77) 23 names (x.n 1 + 1) (nm r.k) (r.t 63) (rf (σ (D + 27))), cmpUse "str.__eq__" (D + 31) (t + 81) (.str (.mk #[115, 117, 98]) (u (eo tg r.both 89))) (.str (.mk #[115, 117, 98]) (τ (t + 80))) true])
noncomputable def eD (tg has gives : Bool) : Nat := tD tg has gives + (match mk3 tg gives with | true => 89 | false => 83)
noncomputable def ND (tg gives : Bool) : Nat := match tg, gives with | true, true => 750 | true, false => 636 | false, _ => 630
noncomputable def kDI (tg : Bool) (r : Row) (W g : Nat → Nat) (X M S Q : Vals) : Seg := ⟨26, fun P T σ x => .code (.call (.ref 314) ⟨[rf (σ 16), rf (σ 0), rf (σ 14), rf (σ 12)], []⟩), fun P σ x => jD P tg r W g X M S Q σ x, List.range 26 ++ (newY tg r.has r.gives).map (26 + ·),
  fun P σ τ x => jD P tg r W g X M S Q σ (nD tg r P (fun j => σ (26 + j)) τ x) ++ newD P tg r (wI σ W) (σ 14) (g 2) X M S Q (fun j => σ (26 + j)) τ x,
  fun P T σ τ x => .res (.ok (.ret .none)), bD tg r.has r.gives + 33, eD tg r.has r.gives, 60, 68, fun _ => ND tg r.gives, fun _ => sD tg r.has r.gives, uD tg r W g X M S Q⟩
/-- what declare_inherited needs -/
structure FD (tg : Bool) (r : Row) (x : Vals) : Prop where
  ok : r.Ok
  k3 : r.k ≤ 3
  c0 : AllStr (x.e 0)
  c1 : lookS (x.e 0) inhS = some (.int (x.i 1) (x.t 1))
  c2 : (x.e 0).size ≤ 60
  c3 : lookS (x.e 0) (nm r.k) = some (.int 1 (x.t 2))
  most : x.i 1 + 1 ≤ 20000
  e0 : AllStr (x.e 1)
  e1 : lookS (x.e 1) (nm r.k) = none
  e2 : (x.e 1).size ≤ 60
  o0 : (x.a 1).size ≤ 60
  p : mk3 tg r.gives = true → r.way = 0 ∧ AllStr (x.e 2) ∧ (x.e 2).size ≤ 60 ∧ (lookS (x.e 2) r.op).isSome = true
theorem isSome_of {α : Type} {o : Option α} {v : α} (h : o = some v) : o.isSome = true := by rw [h]; rfl
theorem inh_ne (k : Nat) : (inhS == nm k) = false := by
  have : ¬ (inhS = nm k) := fun h => by
    have := congrArg (fun s : Str => s.cps.size) h
    exact absurd (show (10 : Nat) = 1 from this) (by decide)
  exact beq_false_of_ne this
theorem str_ne_self (k : Nat) : ((Str.cps (nm k)).toList != (Str.cps (nm k)).toList) = false := by simp
section
variable {F : Fix} {σ τ : Nat → Nat} {lim : Nat} {us : List Use} {K : Addr → Option Obj} {dr : Drawn} {os : OsState} {m₀ i₀ : Nat}
theorem cnt_use (hA : AllRuns F.kt) (H : F.Ok) (O : VOk (F.vc σ τ 68 us K dr os m₀ i₀)) (m i : Nat) {tg : Bool} {r : Row} {X S Q x : Vals} (f : FD tg r x) : UseOk (F.vc σ τ 68 us K dr os m₀ i₀) (kCnt.use F.w.params (F.kt F.w.params) σ τ m i [16, 17, 18, 19, 20, 21, 22] (vC S Q X x σ)) :=
  kCnt_ok (hkCnt := hA.hkCnt) (hkGt := hA.hkGt) (H := H) (O := O) (hlim := Nat.le_of_ble_eq_true rfl) (m := m) (i := i) (hnd := by decide) (hL := rfl)
    (hf := ⟨f.c0, f.c1, f.c2, isSome_of f.c1, allS_setE f.c0 _ _, look_setE_same f.c0 (isSome_of f.c1), decide_eq_false (by have := f.most; show ¬ (x.i 1 + 1 > 20000); omega)⟩)
theorem dq_use (hA : AllRuns F.kt) (H : F.Ok) (O : VOk (F.vc σ τ 68 us K dr os m₀ i₀)) (m i : Nat) {js : List Nat} (hnd : js.Nodup) (hL : js.length = 9) {tg : Bool} {r : Row} {w N t : Nat → Nat} {S Q X x : Vals} {cnt : Tok} (f : FD tg r x) :
    UseOk (F.vc σ τ 68 us K dr os m₀ i₀) (kDeclQ.use F.w.params (F.kt F.w.params) σ τ m i js (vQ tg r w N t S Q X x cnt)) :=
  kDeclQ_ok (hkDeclQ := hA.hkDeclQ) (hkSettle := hA.hkSettle) (hkEq := hA.hkEq) (hTop := hA.hTop) (hkIeq := hA.hkIeq) (H := H) (O := O) (hlim := Nat.le_of_ble_eq_true rfl) (m := m) (i := i) (hnd := hnd) (hL := hL)
    (hf := by
      have q : lookS (setE (x.e 0) inhS (.int (x.i 1 + 1) cnt)) (nm r.k) = some (.int 1 (x.t 2)) := by rw [look_setE_ne f.c0 (inh_ne r.k)]; exact f.c3
      exact ⟨⟨f.e0, f.e1⟩, allS_setE f.c0 _ _, q, Nat.le_trans (Nat.le_of_eq (size_setE _ _ _)) f.c2, isSome_of q, f.e0, f.e2, f.e1, f.o0⟩)
theorem eqSub_use (hA : AllRuns F.kt) (H : F.Ok) (O : VOk (F.vc σ τ 68 us K dr os m₀ i₀)) (m i : Nat) (t u : Tok) : UseOk (F.vc σ τ 68 us K dr os m₀ i₀) (cmpUse "str.__eq__" m i (.str (.mk #[115, 117, 98]) t) (.str (.mk #[115, 117, 98]) u) true) :=
  cmp_use hA.hkEq H O (Nat.le_of_ble_eq_true rfl) _ _ (vals [t, u] [.mk #[115, 117, 98], .mk #[115, 117, 98]] [] [] [] [] [] [] [] [] []) (Prod.ext (by kernel_rfl) rfl)
theorem uD_nd (tg has gives : Bool) : [26 + b0 tg gives + kx (match has with | true => gives | false => false) 32, 26 + b0 tg gives + kx (match has with | true => gives | false => false) 31, 18, 19, 23, 20, 21, 22, 24].Nodup := by cases tg <;> cases has <;> cases gives <;> decide
theorem uD_all {tg : Bool} {r : Row} {W g : Nat → Nat} {X M S Q x : Vals} (hA : AllRuns F.kt) (hR : RI F.kt) (H : F.Ok) (O : VOk (F.vc σ τ 68 us K dr os m₀ i₀)) (f : FD tg r x) :
    ∀ u ∈ uD tg r W g X M S Q F.w.params (F.kt F.w.params) σ τ x, UseOk (F.vc σ τ 68 us K dr os m₀ i₀) u := by
  have item : ∀ (m i j : Nat) (l : Value), UseOk (F.vc σ τ 68 us K dr os m₀ i₀) (ditemUse σ m i j ((x.e 1).push (ent F.w.params (nm r.k) (r.t 63) l)) (x.n 1 + 1) (nm r.k) (r.t 63) l) := fun m i j l =>
    ditem_use O _ _ _ _ _ (allS_push f.e0 _ _ _ _) (look_push_same f.e1)
  unfold uD
  refine all_cons ?_ ?_
  · cases hg : r.gives with
    | true => exact cmp_use hA.hkIeq H O (Nat.le_of_ble_eq_true rfl) _ _ (vals [X.t 49, X.t 49] [] [71, 71] [] [] [] [] [] [] [] []) (Prod.ext (by kernel_rfl) rfl)
    | false => exact cmp_use hA.hkIeq H O (Nat.le_of_ble_eq_true rfl) _ _ (vals [X.t 24, X.t 49] [] [61, 71] [] [] [] [] [] [] [] []) (Prod.ext (by kernel_rfl) rfl)
  have rest : ∀ u ∈ (kCnt.use F.w.params (F.kt F.w.params) σ τ (match mk3 tg r.gives with | true => 28 | false => 27) (match mk3 tg r.gives with | true => 22 | false => 16) [16, 17, 18, 19, 20, 21, 22] (vC S Q X x σ) ::
      (kInh tg r W g (rf (σ 18)) (rf (σ 25)) X M S).use F.w.params (F.kt F.w.params) σ τ (26 + b0 tg r.gives) (t0 tg r.gives) (List.range 18) v0 ::
      kDeclQ.use F.w.params (F.kt F.w.params) σ τ (26 + bD tg r.has r.gives) (tD tg r.has r.gives) [26 + b0 tg r.gives + kx r.both 32, 26 + b0 tg r.gives + kx r.both 31, 18, 19, 23, 20, 21, 22, 24] (vQ tg r (wI σ W) (fun j => σ (26 + b0 tg r.gives + j)) (fun j => τ (t0 tg r.gives + j)) S Q X x (τ (t0 tg r.gives - 3))) :: []),
      UseOk (F.vc σ τ 68 us K dr os m₀ i₀) u :=
    all_cons (cnt_use hA H O _ _ f) <| all_cons (kInh_ok hR hA H O (Nat.le_of_ble_eq_true rfl) f.ok _ _ (List.nodup_range) rfl) <| all_cons (dq_use hA H O _ _ (uD_nd tg r.has r.gives) rfl f) all_nil
  intro u hu
  cases hm : mk3 tg r.gives with
  | true =>
    rw [hm] at hu
    obtain ⟨h0, h1, h2, h3⟩ := f.p hm
    have hb : r.gives = true := by cases tg <;> first | exact hm | cases hm
    have sp : UseOk (F.vc σ τ 68 us K dr os m₀ i₀) ((kSp r.has r.k).use F.w.params (F.kt F.w.params) σ τ 27 17 [] (vals [r.w 75, τ 16] [] [] [] [] [] [] [] [] [] [])) :=
      sp_use hA.hSp H O (Nat.le_of_ble_eq_true rfl) _ _ r.has f.k3 _
    have ne : UseOk (F.vc σ τ 68 us K dr os m₀ i₀) (cmpUse "str.__ne__" 28 22 (.str (nm r.k) (τ 17)) (.str (nm r.k) (r.t 63)) false) :=
      cmp_use hA.hkNe H O (Nat.le_of_ble_eq_true rfl) _ _ (vals [τ 17, r.t 63] [nm r.k, nm r.k] [] [] [] [] [] [] [] [] []) (Prod.ext (str_ne_self r.k) rfl)
    rw [hm] at rest
    have tl := all_cons (dhas_use O (26 + bD tg r.has r.gives + 29) (tD tg r.has r.gives + 66) 25 (n := x.n 2) _ (r.w 75) h1 h3) <| all_cons (dold_use O (26 + bD tg r.has r.gives + 29) (tD tg r.has r.gives + 70) 25 (n := x.n 2) _ (r.w 75) (.str (.mk #[]) (τ (tD tg r.has r.gives + 68))) h1 h2 h3) <| all_cons (item (26 + bD tg r.has r.gives + 30) (tD tg r.has r.gives + 83) 23 (rf (σ (26 + bD tg r.has r.gives + 27)))) <|
      all_cons (eqSub_use hA H O (26 + bD tg r.has r.gives + 31) (tD tg r.has r.gives + 87) (τ (t0 tg r.gives + eo tg r.both 89)) (τ (tD tg r.has r.gives + 86))) all_nil
    rcases List.mem_append.mp hu with hu | hu
    · exact all_cons sp (all_cons ne all_nil) u hu
    · rcases List.mem_append.mp (show u ∈ [_, _, _] ++ _ from hu) with hu | hu
      · exact rest u hu
      · exact tl u hu
  | false =>
    rw [hm] at hu rest
    have tl := all_cons (item (26 + bD tg r.has r.gives + 30) (tD tg r.has r.gives + 77) 23 (rf (σ (26 + bD tg r.has r.gives + 27)))) <|
      all_cons (eqSub_use hA H O (26 + bD tg r.has r.gives + 31) (tD tg r.has r.gives + 81) (τ (t0 tg r.gives + eo tg r.both 89)) (τ (tD tg r.has r.gives + 80))) all_nil
    rcases List.mem_append.mp (show u ∈ [_, _, _] ++ _ from hu) with hu | hu
    · exact rest u hu
    · exact tl u hu
theorem uD_ok {tg : Bool} {r : Row} {W g : Nat → Nat} {X M S Q x : Vals} (hA : AllRuns F.kt) (hR : RI F.kt) (H : F.Ok) (O : VOk (F.vc σ τ 68 (uD tg r W g X M S Q F.w.params (F.kt F.w.params) σ τ x) K dr os m₀ i₀)) (f : FD tg r x) :
    UsesOk (F.vc σ τ 68 (uD tg r W g X M S Q F.w.params (F.kt F.w.params) σ τ x) K dr os m₀ i₀) := uses_all (uD_all hA hR H O f)
noncomputable def RD (kt : Params → KT) : Prop := ∀ tg r W g X M S Q, r.Ok → (mk3 tg r.gives = true → r.way = 0) → (kDI tg r W g X M S Q).Run kt
theorem kDI_ok {tg : Bool} {r : Row} {W g : Nat → Nat} {X M S Q : Vals} (hD : RD F.kt) (hR : RI F.kt) (hA : AllRuns F.kt) (H : F.Ok) (O : VOk (F.vc σ τ lim us K dr os m₀ i₀)) (hlim : lim ≤ 60) (m i : Nat) {js : List Nat} (hnd : js.Nodup) (hL : js.length = 26) {x : Vals} (f : FD tg r x) :
    UseOk (F.vc σ τ lim us K dr os m₀ i₀) ((kDI tg r W g X M S Q).use F.w.params (F.kt F.w.params) σ τ m i js x) :=
  Seg.useOk (hD tg r W g X M S Q f.ok fun h => (f.p h).1) H O hnd hL rfl (show 26 ≤ 1000 by decide) (fun y hy => List.mem_append_left _ (List.mem_range.mpr hy)) hlim ⟨_, rfl⟩ ⟨_, rfl⟩ fun K' O' => uD_ok hA hR H O' f
end
end Mine
end
section
set_option maxRecDepth 100000
set_option maxHeartbeats 4000000
namespace Mine
open PySem PySem.W PySem.W.X
noncomputable def s3d : List Nat := [1,1,1,3,3,3,0,3,31,31,0,31,31,31,3,31,31,31,0,31,31,31,3,31,31,31,0,31,31,31,3,31,31,31,0,31,31,31,3,31,31,31,0,31,31,31,3,31,31,33,4,4,4,4,4,4,4,4,0,4,4,4,4,0,2]
noncomputable def s3o : List Nat := [1,1,1,3,3,3,0,3,31,31,0,31,31,31,3,31,31,31,0,31,31,31,3,31,31,31,0,31,31,31,3,31,31,31,0,31,31,31,3,31,31,31,0,31,31,31,3,31,31,33,4,4,4,4,4,4,4,4,0,4,4,4,4,0,0,0,34,34,34,34,34,34,34,34,34,5,0,0,0,0,5,0,0,0,5,5,0,6,7,0,0,0,0,7,0,0,0,7,7,0,8,0,34,34,34,5,0,0,0,0,5,0,0,0,5,5,0,6,7,0,0,0,0,7,0,0,0,7,7,0,8,0,34,5,0,0,0,0,5,0,0,0,5,5,0,6,7,0,0,0,0,7,0,0,0,7,7,0,8,0,13,0,0,0,0,13,0,0,0,13,13,0,14,0,17,0,0,0,0,17,0,0,0,17,17,0,18,0,34,17,0,0,0,0,17,0,0,0,17,17,0,18,2,34,34,34,19,0,0,0,0,19,0,0,0,19,19,0,20,34,34,0,35,35,35,0,35,35,0,34,5,0,0,0,0,5,0,0,0,5,5,0,6,3]
noncomputable def s3p : List Nat := [1,1,1,3,3,3,0,3,31,31,0,31,31,31,3,31,31,31,0,31,31,31,3,31,31,31,0,31,31,31,3,31,31,31,0,31,31,31,3,31,31,31,0,31,31,31,3,31,31,33,4,4,4,4,4,4,4,4,0,4,4,4,4,0,0,0,34,34,34,34,34,34,34,34,34,5,0,0,0,0,5,0,0,0,5,5,0,6,7,0,0,0,0,7,0,0,0,7,7,0,8,0,34,34,34,5,0,0,0,0,5,0,0,0,5,5,0,6,7,0,0,0,0,7,0,0,0,7,7,0,8,0,34,5,0,0,0,0,5,0,0,0,5,5,0,6,7,0,0,0,0,7,0,0,0,7,7,0,8,0,13,0,0,0,0,13,0,0,0,13,13,0,14,0,17,0,0,0,0,17,0,0,0,17,17,0,18,0,34,17,0,0,0,0,17,0,0,0,17,17,0,18,2,34,34,34,19,0,0,0,0,19,0,0,0,19,19,0,20,34,34,0,35,35,35,0,35,35,0,34,5,0,0,0,0,5,0,0,0,5,5,0,6,3]
noncomputable def fr3 (P : Params) (told : Bool) (X3 : Vals) (σ : Nat → Nat) (x : Vals) : Obj :=
  let l : List Value := [X3.v 0, X3.v 1, X3.v 2, X3.v 3, X3.v 4, X3.v 5, X3.v 6, X3.v 7, rf (σ 16), X3.v 8, X3.v 9, x.v 10, x.v 11, x.v 12, X3.v 13, X3.v 14, x.v 15, rf (σ 18), X3.v 16, X3.v 17]
  match told with
  | true => frO P kF (rg X3.t 2 23) (l ++ [X3.v 18, rf (σ 20), X3.v 19]) 23
  | false => frO P (kF.take 20 ++ kF.drop 21) (rg X3.t 2 22) (l ++ [rf (σ 20), X3.v 19]) 22
/-- rows, the row, frame, then declare_inherited's -/
noncomputable def j3 (tg told : Bool) (r : Row) (W g : Nat → Nat) (X M S Q X3 : Vals) (P : Params) (σ : Nat → Nat) (x : Vals) : List Obj :=
  lO (X3.a 0) (X3.n 100) :: rowT r (wI (fun j => σ (4 + j)) W) :: fr3 P told X3 σ x :: jD P tg r W g X M S Q (fun j => σ (4 + j)) x
/-- the frame after a turn -/
noncomputable def nF (r : Row) (σ : Nat → Nat) (x : Vals) : Vals :=
  { x with v := fun j => match j with | 10 => .int (Int.ofNat r.way) (r.t 57) | 11 => .bool r.gives | 12 => .bool r.has | 15 => rf (σ 4) | j => x.v j }
noncomputable def n3 (d : Do) (r : Row) (P : Params) (σ τ : Nat → Nat) (x : Vals) : Vals := match d with
  | .out => nF r σ x
  | d => nD d.tg r P (fun j => σ (33 + j)) (fun j => τ (4 + j)) (nF r σ x)
noncomputable def o3 (d : Do) (r : Row) (W g : Nat → Nat) (X M S Q : Vals) (P : Params) (σ τ : Nat → Nat) (x : Vals) : List Obj := match d with
  | .out => []
  | d => newD P d.tg r (wI (fun j => σ (4 + j)) W) (σ 18) (g 2) X M S Q (fun j => σ (33 + j)) (fun j => τ (4 + j)) x
noncomputable def x3 (d : Do) (r : Row) : List Nat := match d with
  | .out => []
  | d => (newY d.tg r.has r.gives).map (33 + ·)
noncomputable def u3 (d : Do) (r : Row) (m : Nat) (W g : Nat → Nat) (X M S Q X3 : Vals) (P : Params) (T : KT) (σ τ : Nat → Nat) (x : Vals) : List Use :=
  itUse σ 30 0 0 1 (X3.a 0) (X3.n 100) m (σ 2 + 417) :: match d with
  | .out => [cmpUse "int.__eq__" 34 18 (.int 71 (X.t 49)) (.int 71 (X.t 49)) true, match r.way with
    | 1 => cmpUse "str.__ne__" 35 26 (.str (.mk #[111, 108, 100]) (τ 21)) (.str (nm r.k) (r.t 63)) true
    | _ => cmpUse "str.__ne__" 35 23 (.str (.mk #[]) (r.w 75)) (.str (nm r.k) (r.t 63)) true]
  | d => [(kDI d.tg r W g X M S Q).use P T σ τ 33 4 (rg id 4 26) x]
noncomputable def k3 (d : Do) (told : Bool) (r : Row) (m : Nat) (W g : Nat → Nat) (X M S Q X3 : Vals) : Seg := ⟨30, fun P T σ x => .code (loopC3 T (.ref (σ 0 + 417)) (σ 3 + 417)), fun P σ x => itO (σ 1 + 417) (Int.ofNat m) :: j3 d.tg told r W g X M S Q X3 P σ x, List.range 30 ++ x3 d r,
  fun P σ τ x => itO (σ 1 + 417) (Int.ofNat m + 1) :: j3 d.tg told r W g X M S Q X3 P σ (n3 d r P σ τ x) ++ o3 d r W g X M S Q P σ τ x,
  fun P T σ τ x => .tree (.pure (.again (loopC3 T (.ref (σ 0 + 417)) (σ 3 + 417)))),
  match d with | .out => 5 | d => 3 + (bD d.tg r.has r.gives + 33), match d with | .out => (match r.way with | 1 => 26 | _ => 23) | d => 4 + eD d.tg r.has r.gives, 30, 60,
  fun _ => match d with | .out => (match r.way with | 1 => 400 | _ => 398) | _ => 113, fun _ => match d with | .out => (match r.way with | 1 => s3o | _ => s3p) | _ => s3d, u3 d r m W g X M S Q X3⟩
/-- what a turn of the third loop needs -/
structure F3 (d : Do) (r : Row) (m : Nat) (A : Nat → Nat) (X3 x : Vals) : Prop where
  it : ItFact (X3.a 0) m (A 2 + 417)
  fd : d ≠ .out → FD d.tg r x
  out : d = .out → r.gives = true ∧ (r.way = 1 ∨ r.way = 2)
theorem old_ne (k : Nat) : ((Str.cps (.mk #[111, 108, 100])).toList != (Str.cps (nm k)).toList) = true := by simp [nm]
theorem emp_ne (k : Nat) : ((Str.cps (.mk #[])).toList != (Str.cps (nm k)).toList) = true := by simp [nm]
section
variable {F : Fix} {σ τ : Nat → Nat} {lim : Nat} {us : List Use} {K : Addr → Option Obj} {dr : Drawn} {os : OsState} {m₀ i₀ : Nat}
theorem u3_all {d : Do} {r : Row} {m : Nat} {W g : Nat → Nat} {X M S Q X3 x : Vals} (hA : AllRuns F.kt) (hI : RI F.kt) (hD : RD F.kt) (H : F.Ok) (O : VOk (F.vc σ τ 60 us K dr os m₀ i₀)) (f : F3 d r m σ X3 x) :
    ∀ u ∈ u3 d r m W g X M S Q X3 F.w.params (F.kt F.w.params) σ τ x, UseOk (F.vc σ τ 60 us K dr os m₀ i₀) u := by
  refine all_cons (it_use hA.hIt H O (Nat.le_of_ble_eq_true rfl) _ _ (by decide) _ f.it) ?_
  cases d with
  | tag => exact all_cons (kDI_ok hD hI hA H O (Nat.le_of_ble_eq_true rfl) _ _ (by decide) rfl (f.fd (fun h => nomatch h))) all_nil
  | plain => exact all_cons (kDI_ok hD hI hA H O (Nat.le_of_ble_eq_true rfl) _ _ (by decide) rfl (f.fd (fun h => nomatch h))) all_nil
  | out =>
    refine all_cons (cmp_use hA.hkIeq H O (Nat.le_of_ble_eq_true rfl) _ _ (vals [X.t 49, X.t 49] [] [71, 71] [] [] [] [] [] [] [] []) (Prod.ext (by kernel_rfl) rfl)) ?_
    rcases (f.out rfl).2 with h | h
    · rw [h]
      exact all_cons (cmp_use hA.hkNe H O (Nat.le_of_ble_eq_true rfl) _ _ (vals [τ 21, r.t 63] [.mk #[111, 108, 100], nm r.k] [] [] [] [] [] [] [] [] []) (Prod.ext (old_ne r.k) rfl)) all_nil
    · rw [h]
      exact all_cons (cmp_use hA.hkNe H O (Nat.le_of_ble_eq_true rfl) _ _ (vals [r.w 75, r.t 63] [.mk #[], nm r.k] [] [] [] [] [] [] [] [] []) (Prod.ext (emp_ne r.k) rfl)) all_nil
end
noncomputable def R3 (kt : Params → KT) : Prop := ∀ d told r m W g X M S Q X3, r.Ok → (d = .out → r.gives = true ∧ (r.way = 1 ∨ r.way = 2)) → (k3 d told r m W g X M S Q X3).Run kt
noncomputable def d3 (d : Do) (r : Row) : Nat := match d with | .out => 5 | d => 3 + (bD d.tg r.has r.gives + 33)
theorem turn3 {F : Fix} {K : Addr → Option Obj} {dr : Drawn} {os : OsState} (hA : AllRuns F.kt) (hI : RI F.kt) (hD : RD F.kt) (hR : R3 F.kt) (H : F.Ok) (HK : KOk F K) {A : Nat → Nat} {d : Do} {told : Bool} {r : Row} {m : Nat} {W g : Nat → Nat} {X M S Q X3 x : Vals} {rest : List (Nat × Obj)} {s : Shared} {z n : Nat} {κ : TK} (hn : n ≤ 30)
    (hr : r.Ok) (f : F3 d r m (adr (rg A 0 30) z) X3 x)
    (hκ : ∀ c s', GoodC (model PySem.Challenge.pw_rg0017_01 F.w) 30 none κ c s' → c.quiet = true → Good (model PySem.Challenge.pw_rg0017_01 F.w) 30 none κ (.pure (.again c)) s') (hI' : κ.Inv)
    (D : Hp K dr os s z ((rg A 0 30).zip (itO (A 1 + 417) (Int.ofNat m) :: j3 d.tg told r W g X M S Q X3 F.w.params A x) ++ rest))
    (hk : ∀ s' τ, Hp K dr os s' (z + d3 d r) ((rg A 0 30).zip (itO (A 1 + 417) (Int.ofNat m + 1) :: j3 d.tg told r W g X M S Q X3 F.w.params A (n3 d r F.w.params (adr (rg A 0 30) z) τ x)) ++
        (((x3 d r).map (adr (rg A 0 30) z)).zip (o3 d r W g X M S Q F.w.params (adr (rg A 0 30) z) τ x) ++ rest)) →
      GoodC (model PySem.Challenge.pw_rg0017_01 F.w) 30 none κ (loopC3 (F.kt F.w.params) (.ref (A 0 + 417)) (A 3 + 417)) s') :
    GoodC (model PySem.Challenge.pw_rg0017_01 F.w) n none κ (loopC3 (F.kt F.w.params) (.ref (A 0 + 417)) (A 3 + 417)) s := by
  have hxs : xsOk (k3 d told r m W g X M S Q X3) = true := by
    obtain ⟨has, gives, way, k, t, i⟩ := r
    cases d <;> cases has <;> cases gives <;> kernel_rfl
  refine Seg.step_c (S := k3 d told r m W g X M S Q X3) (rg A 0 30) x rfl (hR d told r m W g X M S Q X3 hr f.out) H HK D rfl rfl rfl (Nat.le_of_ble_eq_true rfl) hxs (fun τ K' O => uses_all (u3_all hA hI hD H O f)) (fun _ => rfl) hI' hn (fun s' τ E => ?_)
  refine good_again hI' rfl (hk s' τ ?_)
  cases d <;> exact Eq.mp (by kernel_rfl) E
end Mine
end
section
set_option maxRecDepth 100000
set_option maxHeartbeats 4000000
namespace Mine
open PySem PySem.W PySem.W.X
noncomputable def sA0 : List Nat := [0,0,0,0,4,4,4,4,4,4,0,4,4,4,0,0,0,0,0,0,0,0,0,0,0,0,0,0,0,0,0,0,0,0,0,0,0,0,0,0,0,0,0,0,6,0,6,0,0,0,0,0,0,7,7,7,7,7,7,7,7,7,7,6,0,0,0,0,6,0,6,0,6,0,0,0,6,0,5,5,5,7,7,6,0,0,0,0,6,0,6,0,6,0,0,0,6,0,5,5,5,7,7,6,0,0,0,0,6,0,6,0,6,0,0,0,6,0,5,5,5,7,7,7,6,0,0,0,0,6,0,6,0,6,0,0,0,6,0,5,5,5,7,6,0,0,0,0,6,0,6,0,6,0,0,0,6,0,5,5,5,7,6,0,0,0,0,6,0,0,0,6,6,0,5,6,0,0,0,0,6,0,0,0,6,6,0,5,0,6,0,0,0,0,6,0,6,0,6,0,0,0,6,0,5,5,5,7,6,0,0,0,0,6,0,0,0,6,6,0,5,6,0,0,0,0,6,0,0,0,6,6,0,5,0,7,6,0,0,0,0,6,0,6,0,6,0,0,0,6,0,5,5,5,7,7,6,0,0,0,0,6,0,6,0,6,0,0,0,6,0,5,5,5,7,0,7,6,0,0,0,0,6,0,6,0,6,0,0,0,6,0,5,5,5,7,6,0,0,0,0,6,0,6,0,6,0,0,0,6,0,5,5,5,7,6,0,0,0,0,6,0,6,0,6,0,0,0,6,0,5,5,5,7,6,0,0,0,0,6,0,6,0,6,0,0,0,6,0,5,5,5,7,6,0,0,0,0,6,0,6,0,6,0,0,0,6,0,5,5,5,7,6,0,0,0,0,6,0,6,0,6,0,0,0,6,0,5,5,5,7,6,0,0,0,0,6,0,6,0,6,0,0,0,6,0,5,5,5,7,6,0,0,0,0,6,0,6,0,6,0,0,0,6,0,5,5,5,4,4,4,4,1,1,1,1,15,15,0,15,16,0,16,0,16,16,16,15,16,16,1,1,0,1,0,0,0,0,0,0,0,0,0,0,0,0,0,0,0,0,0,0,0,0,0,0,0,0,0,0,0,0,0,0,18,0,18,0,0,0,0,0,0,19,19,19,19,19,19,19,19,19,19,19,19,19,19,19,19,18,0,0,0,0,18,0,18,0,18,0,0,0,18,0,17,17,17,19,19,18,0,0,0,0,18,0,18,0,18,0,0,0,18,0,17,17,17,19,19,18,0,0,0,0,18,0,18,0,18,0,0,0,18,0,17,17,17,19,19,18,0,0,0,0,18,0,18,0,18,0,0,0,18,0,17,17,17,19,19,18,0,0,0,0,18,0,18,0,18,0,0,0,18,0,17,17,17,19,19,18,0,0,0,0,18,0,18,0,18,0,0,0,18,0,17,17,17,19,18,0,0,0,0,18,0,18,0,18,0,0,0,18,0,17,17,17,19,18,0,0,0,0,18,0,18,0,18,0,0,0,18,0,17,17,17,19,18,0,0,0,0,18,0,18,0,18,0,0,0,18,0,17,17,17,19,18,0,0,0,0,18,0,18,0,18,0,0,0,18,0,17,17,17,19,18,0,0,0,0,18,0,18,0,18,0,0,0,18,0,17,17,17,19,18,0,0,0,0,18,0,18,0,18,0,0,0,18,0,17,17,17,19,18,0,0,0,0,18,0,18,0,18,0,0,0,18,0,17,17,17,19,18,0,0,0,0,18,0,18,0,18,0,0,0,18,0,17,17,17,19,18,0,0,0,0,18,0,18,0,18,0,0,0,18,0,17,17,17,19,18,0,0,0,0,18,0,18,0,18,0,0,0,18,0,17,17,17,19,18,0,0,0,0,18,0,18,0,18,0,0,0,18,0,17,17,17,1,1,0,1,1,0,0,0,20,20,20,20,0,20,20,0,0,0,21,21,21,21,21,18,0,0,0,0,18,0,0,0,18,18,0,17,0,0,21,21,0,1,21,6,0,0,0,0,6,0,0,0,6,6,0,5,6,0,0,0,0,6,0,0,0,6,6,0,5,0,6,0,0,0,0,6,0,6,0,6,0,0,0,6,0,5,5,5,21,6,0,0,0,0,6,0,0,0,6,6,0,5,6,0,0,0,0,6,0,0,0,6,6,0,5,0,21,18,0,0,0,0,18,0,18,0,18,0,0,0,18,0,17,17,17,21,21,18,0,0,0,0,18,0,18,0,18,0,0,0,18,0,17,17,17,21,6,0,0,0,0,6,0,0,0,6,6,0,5,21,18,0,0,0,0,18,0,18,0,18,0,0,0,18,0,17,17,17,0,21,21,0,0,0,44,44,44,44,44,18,0,0,0,0,18,0,0,0,18,18,0,17,0,0,44,0,0,0,45,45,45,45,45,0,45,6,0,0,0,0,6,0,0,0,6,6,0,5,0,0,0,2,45,44,44,44,6,0,0,0,0,6,0,0,0,6,6,0,5,12,12,12,12,44,18,0,0,0,0,18,0,0,0,18,18,0,17,3,44,44,44,0,44,6,0,0,0,0,6,0,0,0,6,6,0,5,44,18,0,0,0,0,18,0,0,0,18,18,0,17,12,12,4,44,0,44,18,0,0,0,0,18,0,0,0,18,18,0,17,44,18,0,0,0,0,18,0,18,0,18,0,0,0,18,0,17,17,17,21,6,0,0,0,0,6,0,0,0,6,6,0,5,8,8,8,8,21,18,0,0,0,0,18,0,0,0,18,18,0,17,5,46,46,46,46,21,0,46,46,46,46,21,6,0,0,0,0,6,0,0,0,6,6,0,5,9,9,9,9,21,0,9,9,9,9,0,20,0,0,0,47,47,47,18,0,0,0,0,18,0,18,0,18,0,0,0,18,0,17,17,17,1,14,14,14,14,0,1,1,0,0,0,48,48,48,48,48,48,0,48,48,48,0,0,0,0,0,0,0,0,0,0,0,0,0,0,0,0,0,0,0,0,0,0,0,0,0,0,0,0,0,0,50,0,50,0,0,0,0,0,0,51,51,51,51,51,51,51,51,51,51,50,0,0,0,0,50,0,50,0,50,0,0,0,50,0,49,49,49,51,51,50,0,0,0,0,50,0,50,0,50,0,0,0,50,0,49,49,49,51,51,50,0,0,0,0,50,0,50,0,50,0,0,0,50,0,49,49,49,51,51,6,0,0,0,0,6,0,0,0,6,6,0,5,51,50,0,0,0,0,50,0,50,0,50,0,0,0,50,0,49,49,49,51,50,0,0,0,0,50,0,50,0,50,0,0,0,50,0,49,49,49,51,50,0,0,0,0,50,0,0,0,50,50,0,49,6,0,0,0,0,6,0,0,0,6,6,0,5,0,6,0,0,0,0,6,0,6,0,6,0,0,0,6,0,5,5,5,51,50,0,0,0,0,50,0,0,0,50,50,0,49,6,0,0,0,0,6,0,0,0,6,6,0,5,0,51,50,0,0,0,0,50,0,50,0,50,0,0,0,50,0,49,49,49,51,51,6,0,0,0,0,6,0,0,0,6,6,0,5,51,0,0,0,6,0,51,50,0,0,0,0,50,0,50,0,50,0,0,0,50,0,49,49,49,51,0,51,50,0,0,0,0,50,0,50,0,50,0,0,0,50,0,49,49,49,51,50,0,0,0,0,50,0,50,0,50,0,0,0,50,0,49,49,49,51,50,0,0,0,0,50,0,50,0,50,0,0,0,50,0,49,49,49,51,50,0,0,0,0,50,0,50,0,50,0,0,0,50,0,49,49,49,51,50,0,0,0,0,50,0,50,0,50,0,0,0,50,0,49,49,49,51,50,0,0,0,0,50,0,50,0,50,0,0,0,50,0,49,49,49,51,50,0,0,0,0,50,0,50,0,50,0,0,0,50,0,49,49,49,51,50,0,0,0,0,50,0,50,0,50,0,0,0,50,0,49,49,49,48,48,48,48,48,18,0,0,0,0,18,0,18,0,18,0,0,0,18,0,17,17,17,48,0,14,14,14,14,16,0,16,16,16,15,16,16,1,1,0,1,0,0,0,0,0,0,0,0,0,0,0,0,0,0,0,0,0,0,0,0,0,0,0,0,0,0,0,0,0,0,59,0,59,0,0,0,0,0,0,60,60,60,60,60,60,60,60,60,60,60,60,60,60,60,60,59,0,0,0,0,59,0,59,0,59,0,0,0,59,0,58,58,58,60,60,59,0,0,0,0,59,0,59,0,59,0,0,0,59,0,58,58,58,60,60,59,0,0,0,0,59,0,59,0,59,0,0,0,59,0,58,58,58,60,60,59,0,0,0,0,59,0,59,0,59,0,0,0,59,0,58,58,58,60,60,59,0,0,0,0,59,0,59,0,59,0,0,0,59,0,58,58,58,60,60,59,0,0,0,0,59,0,59,0,59,0,0,0,59,0,58,58,58,60,59,0,0,0,0,59,0,59,0,59,0,0,0,59,0,58,58,58,60,59,0,0,0,0,59,0,59,0,59,0,0,0,59,0,58,58,58,60,59,0,0,0,0,59,0,59,0,59,0,0,0,59,0,58,58,58,60,59,0,0,0,0,59,0,59,0,59,0,0,0,59,0,58,58,58,60,59,0,0,0,0,59,0,59,0,59,0,0,0,59,0,58,58,58,60,59,0,0,0,0,59,0,59,0,59,0,0,0,59,0,58,58,58,60,59,0,0,0,0,59,0,59,0,59,0,0,0,59,0,58,58,58,60,59,0,0,0,0,59,0,59,0,59,0,0,0,59,0,58,58,58,60,59,0,0,0,0,59,0,59,0,59,0,0,0,59,0,58,58,58,60,59,0,0,0,0,59,0,59,0,59,0,0,0,59,0,58,58,58,60,59,0,0,0,0,59,0,59,0,59,0,0,0,59,0,58,58,58,1,1,0,1,1,0,0,0,61,61,61,61,0,61,61,0,0,0,62,62,62,62,62,59,0,0,0,0,59,0,0,0,59,59,0,58,0,0,62,62,0,7,62,6,0,0,0,0,6,0,0,0,6,6,0,5,6,0,0,0,0,6,0,0,0,6,6,0,5,0,6,0,0,0,0,6,0,6,0,6,0,0,0,6,0,5,5,5,62,6,0,0,0,0,6,0,0,0,6,6,0,5,6,0,0,0,0,6,0,0,0,6,6,0,5,0,62,59,0,0,0,0,59,0,59,0,59,0,0,0,59,0,58,58,58,62,62,59,0,0,0,0,59,0,59,0,59,0,0,0,59,0,58,58,58,62,6,0,0,0,0,6,0,0,0,6,6,0,5,62,59,0,0,0,0,59,0,59,0,59,0,0,0,59,0,58,58,58,0,62,62,0,0,0,85,85,85,85,85,59,0,0,0,0,59,0,0,0,59,59,0,58,0,0,85,0,0,0,86,86,86,86,86,0,86,6,0,0,0,0,6,0,0,0,6,6,0,5,0,0,0,8,86,85,85,85,6,0,0,0,0,6,0,0,0,6,6,0,5,12,12,12,12,85,59,0,0,0,0,59,0,0,0,59,59,0,58,9,85,85,85,0,85,6,0,0,0,0,6,0,0,0,6,6,0,5,85,59,0,0,0,0,59,0,0,0,59,59,0,58,12,12,10,85,0,85,59,0,0,0,0,59,0,0,0,59,59,0,58,85,59,0,0,0,0,59,0,59,0,59,0,0,0,59,0,58,58,58,62,6,0,0,0,0,6,0,0,0,6,6,0,5,8,8,8,8,62,59,0,0,0,0,59,0,0,0,59,59,0,58,11,87,87,87,87,62,0,87,87,87,87,62,6,0,0,0,0,6,0,0,0,6,6,0,5,9,9,9,9,62,0,9,9,9,9,0,61,0,0,0,88,88,88,59,0,0,0,0,59,0,59,0,59,0,0,0,59,0,58,58,58,1,14,14,14,14,0,1,1,0,0,0,89,89,89,89,89,89,0,89,89,89,0,0,0,0,0,0,0,0,0,0,0,0,0,0,0,0,0,0,0,0,0,0,0,0,0,0,0,0,0,0,91,0,91,0,0,0,0,0,0,92,92,92,92,92,92,92,92,92,92,91,0,0,0,0,91,0,91,0,91,0,0,0,91,0,90,90,90,92,92,91,0,0,0,0,91,0,91,0,91,0,0,0,91,0,90,90,90,92,92,91,0,0,0,0,91,0,91,0,91,0,0,0,91,0,90,90,90,92,92,6,0,0,0,0,6,0,0,0,6,6,0,5,92,91,0,0,0,0,91,0,91,0,91,0,0,0,91,0,90,90,90,92,91,0,0,0,0,91,0,91,0,91,0,0,0,91,0,90,90,90,92,91,0,0,0,0,91,0,0,0,91,91,0,90,6,0,0,0,0,6,0,0,0,6,6,0,5,0,6,0,0,0,0,6,0,6,0,6,0,0,0,6,0,5,5,5,92,91,0,0,0,0,91,0,0,0,91,91,0,90,6,0,0,0,0,6,0,0,0,6,6,0,5,0,92,91,0,0,0,0,91,0,91,0,91,0,0,0,91,0,90,90,90,92,92,6,0,0,0,0,6,0,0,0,6,6,0,5,92,0,0,0,12,0,92,91,0,0,0,0,91,0,91,0,91,0,0,0,91,0,90,90,90,92,0,92,91,0,0,0,0,91,0,91,0,91,0,0,0,91,0,90,90,90,92,91,0,0,0,0,91,0,91,0,91,0,0,0,91,0,90,90,90,92,91,0,0,0,0,91,0,91,0,91,0,0,0,91,0,90,90,90,92,91,0,0,0,0,91,0,91,0,91,0,0,0,91,0,90,90,90,92,91,0,0,0,0,91,0,91,0,91,0,0,0,91,0,90,90,90,92,91,0,0,0,0,91,0,91,0,91,0,0,0,91,0,90,90,90,92,91,0,0,0,0,91,0,91,0,91,0,0,0,91,0,90,90,90,92,91,0,0,0,0,91,0,91,0,91,0,0,0,91,0,90,90,90,89,89,89,89,89,59,0,0,0,0,59,0,59,0,59,0,0,0,59,0,58,58,58,89,0,14,14,14,14,16,0,16,16,16,15,16,16,100,0,0,0,0,0,0,101,101,101,101,101,101,0,101,0,0,0,0,0,0,0,0,0,0,0,0,0,0,0,0,0,0,0,0,0,0,0,0,0,0,0,0,0,0,103,0,103,0,0,0,0,0,0,104,104,104,104,104,104,104,104,103,0,0,0,0,103,0,103,0,103,0,0,0,103,0,102,102,102,104,104,103,0,0,0,0,103,0,103,0,103,0,0,0,103,0,102,102,102,104,103,0,0,0,0,103,0,103,0,103,0,0,0,103,0,102,102,102,104,103,0,0,0,0,103,0,103,0,103,0,0,0,103,0,102,102,102,104,103,0,0,0,0,103,0,103,0,103,0,0,0,103,0,102,102,102,104,103,0,0,0,0,103,0,103,0,103,0,0,0,103,0,102,102,102,104,103,0,0,0,0,103,0,103,0,103,0,0,0,103,0,102,102,102,104,103,0,0,0,0,103,0,103,0,103,0,0,0,103,0,102,102,102,104,103,0,0,0,0,103,0,103,0,103,0,0,0,103,0,102,102,102,104,103,0,0,0,0,103,0,103,0,103,0,0,0,103,0,102,102,102,104,103,0,0,0,0,103,0,103,0,103,0,0,0,103,0,102,102,102,104,103,0,0,0,0,103,0,103,0,103,0,0,0,103,0,102,102,102,104,103,0,0,0,0,103,0,103,0,103,0,0,0,103,0,102,102,102,104,103,0,0,0,0,103,0,103,0,103,0,0,0,103,0,102,102,102,104,103,0,0,0,0,103,0,103,0,103,0,0,0,103,0,102,102,102,104,103,0,0,0,0,103,0,103,0,103,0,0,0,103,0,102,102,102,104,103,0,0,0,0,103,0,103,0,103,0,0,0,103,0,102,102,102,104,103,0,0,0,0,103,0,103,0,103,0,0,0,103,0,102,102,102,104,103,0,0,0,0,103,0,103,0,103,0,0,0,103,0,102,102,102,104,103,0,0,0,0,103,0,103,0,103,0,0,0,103,0,102,102,102,104,103,0,0,0,0,103,0,103,0,103,0,0,0,103,0,102,102,102,104,103,0,0,0,0,103,0,103,0,103,0,0,0,103,0,102,102,102,104,103,0,0,0,0,103,0,103,0,103,0,0,0,103,0,102,102,102,104,103,0,0,0,0,103,0,103,0,103,0,0,0,103,0,102,102,102,101,101,101,101,103,0,0,0,0,103,0,103,0,103,0,0,0,103,0,102,102,102,101,101,103,0,0,0,0,103,0,103,0,103,0,0,0,103,0,102,102,102,101,0,0,0,111,111,111,111,111,111,103,0,0,0,0,103,0,103,0,103,0,0,0,103,0,102,102,102,111,0,1,0,13,0,113,113,113,0,113,114,114,0,114,114,114,113,114,114,114,0,114,114,114,113,114,114,114,0,114,114,114,113,114,114,116,1,1,1,1,0,1,0,0,0,0]
noncomputable def sA1 : List Nat := [119,119,119,119,119,119,119,119,0,119,0,0,0,0,0,0,0,0,0,0,0,0,0,0,0,0,0,0,0,0,0,0,0,0,0,0,0,0,0,0,121,0,121,0,0,0,0,0,0,122,122,122,122,122,122,122,122,121,0,0,0,0,121,0,121,0,121,0,0,0,121,0,120,120,120,122,122,121,0,0,0,0,121,0,121,0,121,0,0,0,121,0,120,120,120,122,121,0,0,0,0,121,0,121,0,121,0,0,0,121,0,120,120,120,122,121,0,0,0,0,121,0,121,0,121,0,0,0,121,0,120,120,120,122,121,0,0,0,0,121,0,121,0,121,0,0,0,121,0,120,120,120,122,121,0,0,0,0,121,0,121,0,121,0,0,0,121,0,120,120,120,122,121,0,0,0,0,121,0,121,0,121,0,0,0,121,0,120,120,120,122,121,0,0,0,0,121,0,121,0,121,0,0,0,121,0,120,120,120,122,121,0,0,0,0,121,0,121,0,121,0,0,0,121,0,120,120,120,122,121,0,0,0,0,121,0,121,0,121,0,0,0,121,0,120,120,120,122,121,0,0,0,0,121,0,121,0,121,0,0,0,121,0,120,120,120,122,121,0,0,0,0,121,0,121,0,121,0,0,0,121,0,120,120,120,122,121,0,0,0,0,121,0,121,0,121,0,0,0,121,0,120,120,120,122,121,0,0,0,0,121,0,121,0,121,0,0,0,121,0,120,120,120,122,121,0,0,0,0,121,0,121,0,121,0,0,0,121,0,120,120,120,122,121,0,0,0,0,121,0,121,0,121,0,0,0,121,0,120,120,120,122,121,0,0,0,0,121,0,121,0,121,0,0,0,121,0,120,120,120,122,121,0,0,0,0,121,0,121,0,121,0,0,0,121,0,120,120,120,122,121,0,0,0,0,121,0,121,0,121,0,0,0,121,0,120,120,120,122,121,0,0,0,0,121,0,121,0,121,0,0,0,121,0,120,120,120,122,121,0,0,0,0,121,0,121,0,121,0,0,0,121,0,120,120,120,122,121,0,0,0,0,121,0,121,0,121,0,0,0,121,0,120,120,120,122,121,0,0,0,0,121,0,121,0,121,0,0,0,121,0,120,120,120,122,121,0,0,0,0,121,0,121,0,121,0,0,0,121,0,120,120,120,119,119,0,0,119,0,14,129,129,15,119,121,0,0,0,0,121,0,121,0,121,0,0,0,121,0,120,120,120,0,0,119,0,16,130,130,17,119,121,0,0,0,0,121,0,121,0,121,0,0,0,121,0,120,120,120,119,119,121,0,0,0,0,121,0,121,0,121,0,0,0,121,0,120,120,120,119,117,131,117,0,117,131,117,131,117,131,117,131,119,121,0,0,0,0,121,0,121,0,121,0,0,0,121,0,120,120,120,119,0,0,0,132,132,132,132,132,132,121,0,0,0,0,121,0,121,0,121,0,0,0,121,0,120,120,120,132,1,1,1,1,121,0,0,0,0,121,0,121,0,121,0,0,0,121,0,120,120,120,0,1,14,14,14,0,14,14,0,0,0,133,133,133,133,133,50,0,0,0,0,50,0,0,0,50,50,0,49,6,0,0,0,0,6,0,0,0,6,6,0,5,0,13,13,13,13,133,133,133,50,0,0,0,0,50,0,0,0,50,50,0,49,0,13,13,0,13,13,13,13,0,1,1]
noncomputable def sA2 : List Nat := [0,117,117,117,117,117,117,0,117,0,0,0,0,0,0,0,0,0,0,0,0,0,0,0,0,0,0,0,0,0,0,0,0,0,0,0,0,0,0,119,0,119,0,0,0,0,0,0,120,120,120,120,120,120,120,120,119,0,0,0,0,119,0,119,0,119,0,0,0,119,0,118,118,118,120,120,119,0,0,0,0,119,0,119,0,119,0,0,0,119,0,118,118,118,120,119,0,0,0,0,119,0,119,0,119,0,0,0,119,0,118,118,118,120,119,0,0,0,0,119,0,119,0,119,0,0,0,119,0,118,118,118,120,119,0,0,0,0,119,0,119,0,119,0,0,0,119,0,118,118,118,120,119,0,0,0,0,119,0,119,0,119,0,0,0,119,0,118,118,118,120,119,0,0,0,0,119,0,119,0,119,0,0,0,119,0,118,118,118,120,119,0,0,0,0,119,0,119,0,119,0,0,0,119,0,118,118,118,120,119,0,0,0,0,119,0,119,0,119,0,0,0,119,0,118,118,118,120,119,0,0,0,0,119,0,119,0,119,0,0,0,119,0,118,118,118,120,119,0,0,0,0,119,0,119,0,119,0,0,0,119,0,118,118,118,120,119,0,0,0,0,119,0,119,0,119,0,0,0,119,0,118,118,118,120,119,0,0,0,0,119,0,119,0,119,0,0,0,119,0,118,118,118,120,119,0,0,0,0,119,0,119,0,119,0,0,0,119,0,118,118,118,120,119,0,0,0,0,119,0,119,0,119,0,0,0,119,0,118,118,118,120,119,0,0,0,0,119,0,119,0,119,0,0,0,119,0,118,118,118,120,119,0,0,0,0,119,0,119,0,119,0,0,0,119,0,118,118,118,120,119,0,0,0,0,119,0,119,0,119,0,0,0,119,0,118,118,118,120,119,0,0,0,0,119,0,119,0,119,0,0,0,119,0,118,118,118,120,119,0,0,0,0,119,0,119,0,119,0,0,0,119,0,118,118,118,120,119,0,0,0,0,119,0,119,0,119,0,0,0,119,0,118,118,118,120,119,0,0,0,0,119,0,119,0,119,0,0,0,119,0,118,118,118,120,119,0,0,0,0,119,0,119,0,119,0,0,0,119,0,118,118,118,120,119,0,0,0,0,119,0,119,0,119,0,0,0,119,0,118,118,118,117,117,117,117,119,0,0,0,0,119,0,119,0,119,0,0,0,119,0,118,118,118,117,117,119,0,0,0,0,119,0,119,0,119,0,0,0,119,0,118,118,118,117,0,0,0,127,127,127,127,127,127,119,0,0,0,0,119,0,119,0,119,0,0,0,119,0,118,118,118,127,1,1,1,1,119,0,0,0,0,119,0,119,0,119,0,0,0,119,0,118,118,118,0,1,14,14,14,0,14,14,0,0,0,128,128,128,128,128,50,0,0,0,0,50,0,0,0,50,50,0,49,6,0,0,0,0,6,0,0,0,6,6,0,5,0,13,13,13,13,128,128,128,50,0,0,0,0,50,0,0,0,50,50,0,49,0,13,13,0,13,13,13,13,0,1,1]
noncomputable def sA (tg : Bool) : List Nat := sA0 ++ match tg with | true => sA1 | false => sA2
noncomputable def sB : List Nat := [0,0,0,1,0,1,0,0,0,5,5,0,5,5,5,5,0,5,5,5,5,6]
noncomputable def key (j : Nat) : Str := (kF ++ [(⟨#[104, 101, 97, 114, 100]⟩ : Str)]).getD j default
/-- the law's frame: keys told by number -/
noncomputable def frN (P : Params) (ks : List Nat) (t : Nat → Tok) (v : Nat → Value) : Obj := frO P (ks.map key) (ks.map t) (ks.map v) ks.length
noncomputable def svAt (l : List Nat) (t : Nat → Nat) : List Tok := l.map t
/-- static letters made before the first loop: a, b: addresses of the two halves; t: tokens; y: what the first statement made -/
noncomputable def XA (tg : Bool) (a b t : Nat → Nat) (y : Vals) : Vals :=
  { t := fun j => match Nat.blt j 18 with
      | true => 0
      | false => (match tg with
        | true => [y.t 2, y.t 3, 0] ++ svAt [387, 389, 392, 443, 394, 396, 398, 400, 403, 407, 409, 411, 413, 415, 417, 419, 421, 423, 425, 427, 429, 431, 433, 435, 437] t ++ svAt [479, 481, 484, 539, 486, 488, 490, 492, 495, 499, 501, 503, 505, 507, 509, 511, 513, 515, 517, 519, 521, 523, 525, 527, 529] t
        | false => [y.t 2, y.t 3, 0] ++ svAt [387, 389, 392, 443, 394, 396, 398, 400, 403, 407, 409, 411, 413, 415, 417, 419, 421, 423, 425, 427, 429, 431, 433, 435, 437] t ++ svAt [481, 483, 486, 537, 488, 490, 492, 494, 497, 501, 503, 505, 507, 509, 511, 513, 515, 517, 519, 521, 523, 525, 527, 529, 531] t)
        ++ svAt [168, 159, 170, 172, 175, 178, 188, 193, 197, 195, 199, 201, 203, 205, 207, 209, 211] t ++ svAt [9, 0, 11, 13, 15, 18] t ++ [0] ++ svAt [28, 31, 35, 37, 39, 41, 43, 45, 47, 49, 182] t |>.getD (j - 18) 0
    s := fun _ => .mk #[118, 105, 115, 105, 98, 108, 101]
    i := fun _ => 0
    b := fun _ => true
    r := fun _ => a 88 + 417
    a := fun _ => y.a 0
    e := fun _ => #[]
    n := fun _ => y.n 100
    v := fun j => ([.ref 416, rf (a 3), .none, rf (a 56), .none, .none, .none, .none, .none, .none, .none,
      .str (.mk #[105, 110, 116]) (t 382), .str (.mk #[110]) (t 375), .none, .int (-8) (t 377), .int 7 (t 378), rf (b 13), .int 0 (t 401), rf (b 14), rf (b 15), .none, .bool true, rf (b 16), rf (b 17), .none, .none, .bool false, .none, .bool false, .bool false, .bool false, .bool false, .bool false, rf (b 18)] ++
      (match tg with
        | true => [.str (.mk #[114, 101, 99, 111, 114, 100]) (t 474), .str (.mk #[116]) (t 469), .none, .none, .none, rf (b 31), .int 0 (t 493), rf (b 32), rf (b 33), .none, .bool true, rf (b 37), rf (b 38), .none, .none, .bool true, .none, .bool false, .bool false, .bool false, .bool false, .bool false]
        | false => [.str (.mk #[105, 110, 116]) (t 476), .str (.mk #[116]) (t 469), .none, .int (-8) (t 471), .int 7 (t 472), rf (b 29), .int 0 (t 495), rf (b 30), rf (b 31), .none, .bool true, rf (b 32), rf (b 33), .none, .none, .bool false, .none, .bool false, .bool false, .bool false, .bool false, .bool false]) ++
      [rf (a 15), .int 0 (t 176), .none, .int 0 (t 191), rf (a 51), rf (a 52), rf (a 53), rf (a 54), .none,
       .none, .none, rf (a 3), .int 1 (t 22), .int 0 (t 29), .str (.mk #[98, 111, 100, 121]) (t 33), rf (a 5), rf (a 6), rf (a 7), rf (a 8), rf (a 10), .none] : List Value).getD j .none }
/-- the second region's letters -/
noncomputable def QA (a t : Nat → Nat) : Vals :=
  { v0 with
    t := fun j => (svAt [328, 319, 330, 332, 335, 338, 348, 353, 357, 355, 359, 361, 363, 365, 367, 369, 371] t).getD j 0
    s := fun _ => .mk #[118, 105, 115, 105, 98, 108, 101]
    v := fun j => ([rf (a 56), .int 0 (t 336), .int 5 (t 342), .int 0 (t 351), rf (a 92), rf (a 93), rf (a 94), rf (a 95), .none] : List Value).getD j .none }
noncomputable def tA (tg : Bool) : Nat := match tg with | true => 29 | false => 27
noncomputable def oA (tg : Bool) : Nat := match tg with | true => 36 | false => 34
noncomputable def rA (tg : Bool) : Nat := match tg with | true => 43 | false => 38
/-- the first loop's addresses: f, sand, cells are handed in -/
noncomputable def AA (tg : Bool) (it f sd c : Nat) (a b : Nat → Nat) (j : Nat) : Nat := ([it, f, sd, c, a 11, b 11, b 10, b (tA tg), b (tA tg - 1), a 47, a 46, a 49, a 3, a 2, a 9, a 50, b (oA tg), b (rA tg)] : List Nat).getD j 0
/-- what changes in the first loop, at its start -/
noncomputable def xA (P : Params) (tg : Bool) (t : Nat → Nat) (spot : Int) (st : Tok) (y : Vals) : Vals :=
  { v0 with
    t := fun j => ([0, y.t 0, y.t 1, t 51, t 52, t 55, t 102, t 467, t 468] ++ (match tg with | true => [t 544, t 555] | false => [t 542, t 553]) ++ rg (fun _ => 0) 0 9 ++ [st] ++ rg (fun _ => 0) 0 73 ++ [t 342]).getD j 0
    i := fun j => match j with | 0 => spot | 3 => 5 | _ => 0
    e := fun j => match j with | 1 => #[ent P (.mk #[112]) (t 53) (.int 1 (t 144)), ent P (.mk #[113]) (t 54) (.int 1 (t 304))] | _ => #[]
    n := fun j => match j with | 1 => 2 | _ => 0
    v := fun j => match j with | 2 => .str (.mk #[113]) (t 54) | _ => .none }
noncomputable def cA (j : Nat) : Nat := j + 2
noncomputable def cB (j : Nat) : Nat := j + 91
/-- behind the first loop's objects: the second region; of a tagged type its two lists -/
noncomputable def restX (tg : Bool) : List Nat := [cA 88, cA 87, cA 90, cA 91] ++ match tg with | true => [cB 37, cB 38] | false => []
noncomputable def restA (P : Params) (tg : Bool) (a t : Nat → Nat) : List Obj := [inst 141 (a 87 + 417), qD P (QA a t) (a 3) (a 90) (a 91), dO #[] 0, lO #[] 0] ++ match tg with | true => [lO #[] 0, lO #[] 0] | false => []
noncomputable def insA (P : Params) (σ : Nat → Nat) (y : Vals) : List Obj := [frN P [0, 1] y.t (fun j => match j with | 0 => .ref 416 | _ => rf (σ 1)), sandO P (y.t 2) (y.t 3) (y.t 4) (σ 2 + 417) 0, lO (y.a 0) (y.n 100)]
noncomputable def xsA (tg : Bool) : List Nat := [0, 1, 2] ++ [cA 11, cB 11, cB 10, cB (tA tg), cB (tA tg - 1), cA 47, cA 46, cA 49, cA 3, cA 2, cA 9, cA 50, cB (oA tg), cB (rA tg)] ++ restX tg
noncomputable def outA (tg : Bool) (P : Params) (σ τ : Nat → Nat) (y : Vals) : List Obj :=
  let a (j : Nat) : Nat := σ (cA j)
  let b (j : Nat) : Nat := σ (cB j)
  j1 tg false (XA tg a b τ y) P (AA tg 0 (σ 0) (σ 1) (σ 2) a b) (xA P tg τ 1 (τ 457) y) ++ restA P tg a τ
noncomputable def uA (tg : Bool) (P : Params) (T : KT) (σ τ : Nat → Nat) (y : Vals) : List Use :=
  let K (n : Str) (nt : Tok) (k : List Tok) (es : Array DictEntry) (c : Nat) (sub : Tok) (i3 : Value) (ln z u v : Tok) : Vals := vals (svAt [9, 11, 13, 15, 18, 28, 31, 35, 37, 39, 41, 43, 45, 47, 49] τ ++ k.take 2 ++ [nt] ++ k.drop 2) [n] [] [] [] [es] [] [c] []
    [.str (.mk #[114, 111, 111, 116]) (τ 0), .none, .none, rf (σ 5), i3, .int 1 (τ 22), .int 0 (τ 29), .str (.mk #[98, 111, 100, 121]) (τ 33), rf (σ 8), rf (σ 9), rf (σ 10), rf (σ 11), rf (σ 12), .none, .str (.mk #[112, 97, 99, 107, 97, 103, 101]) sub, .none, .none, .none, .int 1 ln, .int 0 z, .str (.mk #[]) u, .none, .str (.mk #[]) v, .none, .none, .bool false, .bool false, .bool false, .bool false, .bool false] []
  let pc : Array DictEntry := #[ent P (.mk #[112]) (τ 53) (.int 1 (τ 144))]
  let pn : Array DictEntry := #[ent P (.mk #[112]) (τ 53) (rf (σ 45))]
  [kSettle.use P T σ τ 21 109 [5, 4, 7, 17, 16] (K (.mk #[112]) (τ 53) (svAt [66, 68, 70, 72, 74, 76, 79, 82, 84, 87, 89, 91, 93, 95, 97, 99, 101] τ) #[] 0 (τ 56) (.int 1 (τ 22)) (τ 57) (τ 77) (τ 80) (τ 85)),
   kindUse 45 137 (.mk #[114, 111, 111, 116]) (τ 0) true,
   dget3Use σ 45 141 11 #[] 0 (.mk #[112]) (τ 53) (.int 0 (τ 140)) (.int 0 (τ 140)),
   dnewUse P σ 45 147 11 #[] 0 (.mk #[112]) (τ 53) (.int 1 (τ 144)),
   ddfltUse P σ 46 154 7 #[] 0 (.mk #[112]) (τ 53) (rf (σ 45)),
   kindUse 51 190 (.mk #[112, 97, 99, 107, 97, 103, 101]) (τ 159) false,
   kSettle.use P T σ τ 62 269 [5, 4, 7, 58, 57] (K (.mk #[113]) (τ 54) (svAt [226, 228, 230, 232, 234, 236, 239, 242, 244, 247, 249, 251, 253, 255, 257, 259, 261] τ) pn 1 (τ 216) (.int 3 (τ 182)) (τ 217) (τ 237) (τ 240) (τ 245)),
   kindUse 86 297 (.mk #[114, 111, 111, 116]) (τ 0) true,
   dget3Use σ 86 301 11 pc 1 (.mk #[113]) (τ 54) (.int 0 (τ 300)) (.int 0 (τ 300)),
   dnewUse P σ 86 307 11 pc 1 (.mk #[113]) (τ 54) (.int 1 (τ 304)),
   ddfltUse P σ 87 314 7 pn 1 (.mk #[113]) (τ 54) (rf (σ 86)),
   kindUse 92 350 (.mk #[112, 97, 99, 107, 97, 103, 101]) (τ 319) false,
   svUse P σ τ 111 449 1 2 (y.t 2) (y.t 3) (y.t 4) (y.a 0) (y.n 100) 0 2 (τ 448) (bi tg)] ++
  match tg with
  | true => [listNewUse σ 128 531 (rf (σ 116)), listInitUse σ 129 531 128 116 (lO #[] 0) #[], listNewUse σ 129 533 (rf (σ 117)), listInitUse σ 130 533 129 117 (lO #[] 0) #[]]
  | false => []
noncomputable def kA (tg : Bool) : Seg := ⟨3, fun P T σ x => .tree (lawT T 1 (σ 0 + 417)), insA, xsA tg, outA tg, fun P T σ τ x => .tree (lawT T 9 (σ 0 + 417)), match tg with | true => 132 | false => 127, match tg with | true => 556 | false => 554, 20, 60, fun _ => match tg with | true => 7042 | false => 6937, fun _ => sA tg, uA tg⟩
/-- the range's iterator -/
noncomputable def insB (P : Params) (σ : Nat → Nat) (y : Vals) : List Obj := [frN P (List.range 10) y.t (fun j => match j with | 1 => rf (σ 1) | j => y.v j), sandO P (y.t 18) (y.t 19) (y.t 20) (σ 2 + 417) 1, lO (y.a 0) (y.n 100)]
noncomputable def kB (v : Nat) : Seg := ⟨3, fun P T σ x => .tree (lawT T 9 (σ 0 + 417)), insB, [0, 1, 2, 5], fun P σ τ y => [frN P (List.range 10) y.t (fun j => match j with | 1 => rf (σ 1) | j => y.v j), sandO P (y.t 18) (y.t 19) (τ 10) (σ 2 + 417) 2, lO (y.a 0) (y.n 100), rngO 0 (Int.ofNat v + 1)],
  fun P T σ τ x => .tree (loopT T 9 (rf (σ 5)) (σ 0 + 417)), 3, 22, 20, 60, fun _ => 51, fun _ => sB, fun P T σ τ y => [svUse P σ τ 3 2 1 2 (y.t 18) (y.t 19) (y.t 20) (y.a 0) (y.n 100) 1 4 (τ 1) (Int.ofNat v)]⟩
end Mine
end
section
set_option maxRecDepth 100000
namespace Mine
open PySem PySem.W PySem.W.X

/-- all keys are texts, no two alike -/
noncomputable def DistS (es : Array DictEntry) : Prop := ∀ i (h : i < es.size), ∃ x t, es[i].key = .str x t ∧ ((es.extract 0 i).findIdx? fun e => e.key.isStr x) = none
section
variable {prog : Program} {w : World} {A : Around} {E : Value → Shared → Prop} {s : Shared}
theorem merge_copy {nm : String} {d o : Addr} {es : Array DictEntry} {n : Nat} {Q : Unit → Shared → Prop} (hdo : d ≠ o) (hoS : (o == sysModules) = false)
    (hd : s.heap.get? d = some (dO #[] 0)) (ho : s.heap.get? o = some (dO es n)) (hs : AllStr es) (hdist : DistS es) (hz : es.size ≤ 8)
    (hQ : ∀ h', h'.get? d = some (dO es es.size) → Heap.SameBut d s.heap h' → Q () { s with heap := h' }) :
    wpAny (model prog w) A (Builtin.Dict.mergeDict nm d o) Q E s := by
  have hoo : (dO es n).data = .dict es n := rfl
  unfold Builtin.Dict.mergeDict
  rw [if_neg (by simpa using hdo)]
  unfold Builtin.Dict.showsAll
  rw [if_neg (by rw [hoS]; exact Bool.false_ne_true)]
  refine wpAny_bind (wpAny_pure ?_)
  refine wpAny_bind (wpAny_dictEntries ho hoo ?_)
  have few : (decide (es.size ≤ 8) && es.all fun e => (keyPart e.key).isSome) = true := by
    rw [decide_eq_true hz, Bool.true_and]
    rw [Array.all_eq_true]
    intro i h
    obtain ⟨x, t, hk, _⟩ := hdist i h
    rw [hk]; rfl
  have loop : wpAny (model prog w) A (do
      let epoch ← dictEpoch o
      let l ← dictEntries o
      forIn [:l.size] PUnit.unit fun i (_ : PUnit) => (do
          let l' ← dictEntries o
          match l'[i]? with
            | some e => do
              holding [e.key, e.val] (dictSetHashed d e.key e.hash e.val)
              let ep' ← dictEpoch o
              if (ep' != epoch) = true then do
                  (unsupported (toString nm ++ toString ":source-changed-during-callback") : Sem PUnit)
                  pure (ForInStep.yield PUnit.unit)
                else pure (ForInStep.yield PUnit.unit)
            | _ => do
              (unsupported "internal:dict-merge" : Sem PUnit)
              pure (ForInStep.yield PUnit.unit) : Sem (ForInStep PUnit))
      pure ()) Q E s := by
    refine wpAny_bind (wpAny_dictEpoch ho hoo ?_)
    refine wpAny_bind (wpAny_dictEntries ho hoo ?_)
    refine wpAny_bind ?_
    rw [Std.Legacy.Range.forIn_eq_forIn_range']
    simp only [Std.Legacy.Range.size, Nat.sub_zero, Nat.add_sub_cancel, Nat.div_one]
    refine wpAny_forIn_list _
      (fun rest _ s' => ∃ h' i, s' = { s with heap := h' } ∧ rest = List.range' i (es.size - i) ∧ i ≤ es.size ∧ h'.get? d = some (dO (es.extract 0 i) i) ∧ h'.get? o = some (dO es n) ∧ Heap.SameBut d s.heap h')
      _ ?_ ?_ _ _ ⟨s.heap, 0, rfl, by simp, Nat.zero_le _, by rw [hd]; simp, ho, Heap.SameBut.refl _ _⟩
    · rintro x rest b s' ⟨h', i, rfl, hr, hi, hd', hoo', hs'⟩
      have hlt : i < es.size := by
        rcases Nat.lt_or_ge i es.size with h | h
        · exact h
        · rw [Nat.sub_eq_zero_of_le h] at hr; simp at hr
      obtain ⟨rfl, hrest⟩ : x = i ∧ rest = List.range' (i + 1) (es.size - (i + 1)) := by
        have e : es.size - i = (es.size - (i + 1)) + 1 := by omega
        rw [e, List.range'_succ] at hr
        injection hr with h1 h2
        exact ⟨h1, h2⟩
      refine wpAny_bind (wpAny_dictEntries hoo' hoo ?_)
      rw [Array.getElem?_eq_getElem hlt]
      obtain ⟨k, t, hkey, hnone⟩ := hdist x hlt
      show wpAny _ _ (holding [es[x].key, es[x].val] (dictSetHashed d es[x].key es[x].hash es[x].val) >>= _) _ _ _
      have hsz : (es.extract 0 x).size = x := by simp; omega
      have hall : ((es.extract 0 x).all fun e => isExactStrKey e.key) = true := by
        rw [Array.all_eq_true]
        intro j hj
        have hj' : j < es.size := by rw [hsz] at hj; omega
        have := (Array.all_eq_true.mp hs) j hj'
        rw [Array.getElem_extract]
        simpa using this
      have entry : (⟨es[x].hash, .str k t, es[x].val⟩ : DictEntry) = es[x] := by rw [← hkey]
      refine wpAny_bind (wpAny_holding ?_)
      rw [hkey]
      unfold dictSetHashed
      refine wpAny_holding ?_
      refine wpAny_bind (dictFind_str (s := { s with heap := h' }) hd' rfl hall ?_)
      rw [hnone]
      refine wpAny_bind (wpAny_rule (wpAny_updateDictKeys (hz := by rw [hsz]; exact Nat.le_trans (Nat.le_of_lt hlt) (Nat.le_trans hz (by decide +kernel))) (s := { s with heap := h' }) hd' rfl ?_))
      have hs'' := hs'.trans (Heap.SameBut.update h' d (Obj.mapDictKeys (·.push ⟨es[x].hash, .str k t, es[x].val⟩)))
      have hoo'' : (h'.update d (Obj.mapDictKeys (·.push ⟨es[x].hash, .str k t, es[x].val⟩))).get? o = some (dO es n) := by rw [(Heap.SameBut.update h' d _).2 o (Ne.symm hdo)]; exact hoo'
      refine wpAny_bind (wpAny_dictEpoch (s := { s with heap := _ }) hoo'' hoo ?_)
      rw [if_neg (by simp)]
      refine wpAny_pure ⟨_, x + 1, rfl, hrest, hlt, ?_, hoo'', hs''⟩
      rw [Heap.get?_update_self _ hd' rfl]
      have e1 : es.extract 0 (x + 1) = (es.extract 0 x).push es[x] := by
        apply Array.ext
        · simp <;> omega
        · intro i h1 h2
          have hi : i < x + 1 := by simp at h1; omega
          rw [Array.getElem_push]
          by_cases q : i < x
          · rw [dif_pos (by rw [hsz]; exact q)]; simp
          · have : i = x := by omega
            subst this
            rw [dif_neg (by rw [hsz]; omega)]; simp
      rw [e1, ← entry]; rfl
    · rintro b s' ⟨h', i, rfl, hr, hi, hd', hoo', hs'⟩
      have hin : i = es.size := by
        rcases Nat.lt_or_ge i es.size with h | h
        · have e : es.size - i = (es.size - (i + 1)) + 1 := by omega
          rw [e, List.range'_succ] at hr; exact nomatch hr
        · exact Nat.le_antisymm hi h
      subst hin
      exact wpAny_pure (hQ h' (by rw [hd']; simp) hs')
  dsimp only
  split
  · rename_i h
    rw [few] at h
    exact absurd h (by simp)
  · exact loop
theorem code_dict_init {d o : Addr} {es : Array DictEntry} {n : Nat} {R : Result → Shared → Prop} (hdo : d ≠ o) (hoS : (o == sysModules) = false)
    (hd : s.heap.get? d = some (dO #[] 0)) (ho : s.heap.get? o = some (dO es n)) (hs : AllStr es) (hdist : DistS es) (hz : es.size ≤ 8)
    (hQ : ∀ h', h'.get? d = some (dO es es.size) → Heap.SameBut d s.heap h' → R (.ok (.ret .none)) { s with heap := h' }) :
    codeAny (model prog w) A (.call (.builtin "dict.__init__") ⟨[.ref d, .ref o], []⟩) R s := by
  have hT : s.TypeIs (.ref d) "dict" := ⟨_, hd, rfl⟩
  have hT' : s.TypeIs (.ref o) "dict" := ⟨_, ho, rfl⟩
  refine codeAny_call_builtin PySem.F.kt_called_dict.init.plain PySem.F.entry_dict_init (PySem.F.kt_called_dict.init.check _ _ _ _ _ _ _ _ hT (PySem.F.args_dict_init_2 _ _) ?_)
  unfold Builtin.«dict.__init__»
  refine wpAny_bind ?_
  unfold Builtin.Dict.selfAndRest
  refine wpAny_bind (wpAny_notOrdered_dict hT ?_)
  show wpAny _ _ (pure (d, [Value.ref o])) _ _ _
  refine wpAny_pure ?_
  show wpAny _ _ (Builtin.Dict.updateFrom "dict.__init__" d (.ref o) [] .none) _ _ _
  unfold Builtin.Dict.updateFrom
  refine wpAny_bind (wpAny_typeOf hT' ?_)
  rw [if_neg (by decide)]
  refine wpAny_bind ?_
  unfold Builtin.Dict.merge
  refine wpAny_bind ?_
  unfold Builtin.Dict.readDirectly
  refine wpAny_bind (wpAny_isInstance hT' isSubtype_dict_dict ?_)
  simp only [Bool.not_true, Bool.false_eq_true, if_false]
  refine wpAny_bind (wpAny_specialOf hT' F.slot_dict_iter.lookup (wpAny_pure ?_))
  simp only [beq_self_eq_true, if_true]
  refine wpAny_bind (wpAny_pure ?_)
  refine merge_copy hdo hoS hd ho hs hdist hz fun h' hd' hs' => ?_
  show wpAny _ _ (Builtin.Dict.addKeywords d [] >>= _) _ _ _
  exact wpAny_bind (wpAny_pure (wpAny_pure (hQ h' hd' hs')))
end
section
variable {F : Fix} {σ τ : Nat → Nat} {lim : Nat} {us : List Use} {K : Addr → Option Obj} {dr : Drawn} {os : OsState} {m₀ i₀ : Nat}
noncomputable def dcopyUse (σ : Nat → Nat) (m i jS jT : Nat) (es : Array DictEntry) (n : Nat) : Use :=
  ⟨.call (.builtin "dict.__init__") ⟨[.ref (σ jS + 417), .ref (σ jT + 417)], []⟩, m, i, [(jS, dO #[] 0), (jT, dO es n)], .ok (.ret .none), [(jS, dO es es.size)], 0, 0⟩
theorem dcopy_use (O : VOk (F.vc σ τ lim us K dr os m₀ i₀)) (m i : Nat) {jS jT : Nat} (hne : jT ≠ jS) {es : Array DictEntry} {n : Nat} (hs : AllStr es) (hdist : DistS es) (hz : es.size ≤ 8) :
    UseOk (F.vc σ τ lim us K dr os m₀ i₀) (dcopyUse σ m i jS jT es n) := fun hidx s R D hins n' κ _ hk =>
  goodC_of_any fun A _ _ => by
    have eS := hins _ List.mem_cons_self
    have eT := hins _ (List.mem_cons_of_mem _ List.mem_cons_self)
    have hS : s.heap.get? (σ jS + 417) = some (dO #[] 0) := (D.own jS _ eS).2
    have ho : s.heap.get? (σ jT + 417) = some (dO es n) := (D.own jT _ eT).2
    have ha : σ jS + 417 ≠ σ jT + 417 := fun e => hne (D.inj jT jS (by rw [eT]; rfl) (by rw [eS]; rfl) e.symm)
    refine code_dict_init ha (notMods _) hS ho hs hdist hz fun h' hd' hs' => ?_
    refine hk _ ⟨D.gens, D.drawn, D.os, fun b o e => ?_, ?_, D.toks, D.hm, D.hi, fun j o e => ?_, fun j k hj hk' e => D.inj j k ?_ ?_ e⟩
    · have hb : b ≠ σ jS + 417 := fun q => by
        have := (D.own jS _ eS).1
        have this : K (σ jS + 417) = none := this
        have e : K b = some o := e
        rw [q, this] at e; cases e
      show h'.get? b = some o
      rw [hs'.2 b hb]; exact D.keep b o e
    · show h'.objs.size = _
      rw [hs'.1]; exact D.size
    · have e : (putT 17 R jS _).get j = some o := e
      rw [get_putT _ 16 _ jS (idxOk_head hidx)] at e
      by_cases h : j = jS
      · rw [if_pos h] at e
        cases e
        subst h
        exact ⟨(D.own j _ eS).1, hd'⟩
      · rw [if_neg h] at e
        refine ⟨(D.own j o e).1, ?_⟩
        show h'.get? (σ j + 417) = some o
        have q : σ j + 417 ≠ σ jS + 417 := fun q => h (D.inj j jS (by rw [e]; rfl) (by rw [eS]; rfl) q)
        rw [hs'.2 (σ j + 417) q]
        exact (D.own j o e).2
    · have hj : ((putT 17 R jS _).get j).isSome = true := hj
      rw [get_putT _ 16 _ jS (idxOk_head hidx)] at hj
      by_cases h : j = jS
      · subst h; rw [eS]; rfl
      · rw [if_neg h] at hj; exact hj
    · have hj : ((putT 17 R jS _).get k).isSome = true := hk'
      rw [get_putT _ 16 _ jS (idxOk_head hidx)] at hj
      by_cases h : k = jS
      · subst h; rw [eS]; rfl
      · rw [if_neg h] at hj; exact hj
end
end Mine
end
section
set_option maxRecDepth 100000
set_option maxHeartbeats 4000000
namespace Mine
open PySem PySem.W PySem.W.X
noncomputable def sM1 (c : Bool) : List Nat := [1,0,1,0,0,0,8,8,8,8,8,8,8,8,8,8,8,2,0,0,0,0,2,0,0,0,2,2,0,3,0,8,8,8,0,0,0,9,9,9,9,9,9,9,9,9,2,0,0,0,0,2,0,0,0,2,2,0,3,9,2,0,0,0,0,2,0,0,0,2,2,0,3,5,6,5,0,5,6,5,6,11,11,0,11,12,0] ++ (match c with | false => [12,12,0,12,12] | true => []) ++ [12,0,12,12,12,11,12,12,16,14,0,9,2,0,0,0,0,2,0,0,0,2,2,0,3,0,0,0,17,17,17,17,17,17,17,0,17,19,20,19,0,19,20,19,20,17,19,19,19,19,0,19,19,19,19,19,17,17,17,17,19,21,19,0,19,21,19,21,19,21,19,21,17,13,18,13,0,13,18,13,18,9,9,9,9,7,7,0,7,23,0] ++ (match c with | false => [23,23,0,23,23] | true => []) ++ [23,0,23,23,23,7,23,23,27,25,22,24,22,0,22,24,22,24,28,28,0,28,29,0,29,0,29,29,29,28,29,29,31,0,8,8,0,0,0,32,32,32,32,0,32,2,0,0,0,0,2,0,0,0,2,2,0,3,32,0,0,0,0,0,0,0,0,0,0,0,0,0,0,0,0,0,0,0,0,0,0,0,0,0,0,0,0,0,0,34,0,34,0,0,0,0,0,0,35,35,35,35,35,35,35,35,34,0,0,0,0,34,0,34,0,34,0,0,0,34,0,33,33,33,35,35,34,0,0,0,0,34,0,34,0,34,0,0,0,34,0,33,33,33,35,34,0,0,0,0,34,0,34,0,34,0,0,0,34,0,33,33,33,35,34,0,0,0,0,34,0,34,0,34,0,0,0,34,0,33,33,33,35,34,0,0,0,0,34,0,34,0,34,0,0,0,34,0,33,33,33,35,34,0,0,0,0,34,0,34,0,34,0,0,0,34,0,33,33,33,35,34,0,0,0,0,34,0,34,0,34,0,0,0,34,0,33,33,33,35,34,0,0,0,0,34,0,34,0,34,0,0,0,34,0,33,33,33,35,34,0,0,0,0,34,0,34,0,34,0,0,0,34,0,33,33,33,35,34,0,0,0,0,34,0,34,0,34,0,0,0,34,0,33,33,33,35,34,0,0,0,0,34,0,34,0,34,0,0,0,34,0,33,33,33,35,34,0,0,0,0,34,0,34,0,34,0,0,0,34,0,33,33,33,35,34,0,0,0,0,34,0,34,0,34,0,0,0,34,0,33,33,33,35,34,0,0,0,0,34,0,34,0,34,0,0,0,34,0,33,33,33,35,34,0,0,0,0,34,0,34,0,34,0,0,0,34,0,33,33,33,35,34,0,0,0,0,34,0,34,0,34,0,0,0,34,0,33,33,33,35,34,0,0,0,0,34,0,34,0,34,0,0,0,34,0,33,33,33,35,34,0,0,0,0,34,0,34,0,34,0,0,0,34,0,33,33,33,35,34,0,0,0,0,34,0,34,0,34,0,0,0,34,0,33,33,33,35,34,0,0,0,0,34,0,34,0,34,0,0,0,34,0,33,33,33,35,34,0,0,0,0,34,0,34,0,34,0,0,0,34,0,33,33,33,35,34,0,0,0,0,34,0,34,0,34,0,0,0,34,0,33,33,33,35,34,0,0,0,0,34,0,34,0,34,0,0,0,34,0,33,33,33,35,34,0,0,0,0,34,0,34,0,34,0,0,0,34,0,33,33,33,32,32,32,32,34,0,0,0,0,34,0,34,0,34,0,0,0,34,0,33,33,33,32,2,0,0,0,0,2,0,0,0,2,2,0,3,32,34,0,0,0,0,34,0,34,0,34,0,0,0,34,0,33,33,33,32,2,0,0,0,0,2,0,0,0,2,2,0,3,32,34,0,0,0,0,34,0,34,0,34,0,0,0,34,0,33,33,33,32,2,0,0,0,0,2,0,0,0,2,2,0,3,32,34,0,0,0,0,34,0,34,0,34,0,0,0,34,0,33,33,33,32,2,0,0,0,0,2,0,0,0,2,2,0,3,32,34,0,0,0,0,34,0,34,0,34,0,0,0,34,0,33,33,33,32,2,0,0,0,0,2,0,0,0,2,2,0,3,32,34,0,0,0,0,34,0,34,0,34,0,0,0,34,0,33,33,33,32,2,0,0,0,0,2,0,0,0,2,2,0,3,32,34,0,0,0,0,34,0,34,0,34,0,0,0,34,0,33,33,33,32,2,0,0,0,0,2,0,0,0,2,2,0,3,32,34,0,0,0,0,34,0,34,0,34,0,0,0,34,0,33,33,33,32,2,0,0,0,0,2,0,0,0,2,2,0,3,32,34,0,0,0,0,34,0,34,0,34,0,0,0,34,0,33,33,33,32,2,0,0,0,0,2,0,0,0,2,2,0,3,32,34,0,0,0,0,34,0,34,0,34,0,0,0,34,0,33,33,33,32,2,0,0,0,0,2,0,0,0,2,2,0,3,32,34,0,0,0,0,34,0,34,0,34,0,0,0,34,0,33,33,33,32,2,0,0,0,0,2,0,0,0,2,2,0,3,32,34,0,0,0,0,34,0,34,0,34,0,0,0,34,0,33,33,33,32,2,0,0,0,0,2,0,0,0,2,2,0,3,32,34,0,0,0,0,34,0,34,0,34,0,0,0,34,0,33,33,33,32,2,0,0,0,0,2,0,0,0,2,2,0,3,32,34,0,0,0,0,34,0,34,0,34,0,0,0,34,0,33,33,33,32,2,0,0,0,0,2,0,0,0,2,2,0,3,32,34,0,0,0,0,34,0,34,0,34,0,0,0,34,0,33,33,33,32,2,0,0,0,0,2,0,0,0,2,2,0,3,32,34,0,0,0,0,34,0,34,0,34,0,0,0,34,0,33,33,33,0,0,32,2,0,0,0,0,2,0,0,0,2,2,0,3,0,0,42,42,1,32,34,0,0,0,0,34,0,34,0,34,0,0,0,34,0,33,33,33,32,8,8,8,8,34,0,0,0,0,34,0,34,0,34,0,0,0,34,0,33,33,33,8,2,0,0,0,0,2,0,0,0,2,2,0,3,0,0,8,0,2,43,43,3,6,43,6,0,6,43,6,43,8,34,0,0,0,0,34,0,34,0,34,0,0,0,34,0,33,33,33,8,2,0,0,0,0,2,0,0,0,2,2,0,3,0,8,1,1]
noncomputable def sM0 : List Nat := [1,0,0,1,0,0,0,5,5,5,5,0,5,2,0,0,0,0,2,0,0,0,2,2,0,3,5,0,0,0,0,0,0,0,0,0,0,0,0,0,0,0,0,0,0,0,0,0,0,0,0,0,0,0,0,0,0,7,0,7,0,0,0,0,0,0,8,8,8,8,8,8,8,8,7,0,0,0,0,7,0,7,0,7,0,0,0,7,0,6,6,6,8,8,7,0,0,0,0,7,0,7,0,7,0,0,0,7,0,6,6,6,8,7,0,0,0,0,7,0,7,0,7,0,0,0,7,0,6,6,6,8,7,0,0,0,0,7,0,7,0,7,0,0,0,7,0,6,6,6,8,7,0,0,0,0,7,0,7,0,7,0,0,0,7,0,6,6,6,8,7,0,0,0,0,7,0,7,0,7,0,0,0,7,0,6,6,6,8,7,0,0,0,0,7,0,7,0,7,0,0,0,7,0,6,6,6,8,7,0,0,0,0,7,0,7,0,7,0,0,0,7,0,6,6,6,8,7,0,0,0,0,7,0,7,0,7,0,0,0,7,0,6,6,6,8,7,0,0,0,0,7,0,7,0,7,0,0,0,7,0,6,6,6,8,7,0,0,0,0,7,0,7,0,7,0,0,0,7,0,6,6,6,8,7,0,0,0,0,7,0,7,0,7,0,0,0,7,0,6,6,6,8,7,0,0,0,0,7,0,7,0,7,0,0,0,7,0,6,6,6,8,7,0,0,0,0,7,0,7,0,7,0,0,0,7,0,6,6,6,8,7,0,0,0,0,7,0,7,0,7,0,0,0,7,0,6,6,6,8,7,0,0,0,0,7,0,7,0,7,0,0,0,7,0,6,6,6,8,7,0,0,0,0,7,0,7,0,7,0,0,0,7,0,6,6,6,8,7,0,0,0,0,7,0,7,0,7,0,0,0,7,0,6,6,6,8,7,0,0,0,0,7,0,7,0,7,0,0,0,7,0,6,6,6,8,7,0,0,0,0,7,0,7,0,7,0,0,0,7,0,6,6,6,8,7,0,0,0,0,7,0,7,0,7,0,0,0,7,0,6,6,6,8,7,0,0,0,0,7,0,7,0,7,0,0,0,7,0,6,6,6,8,7,0,0,0,0,7,0,7,0,7,0,0,0,7,0,6,6,6,8,7,0,0,0,0,7,0,7,0,7,0,0,0,7,0,6,6,6,5,5,5,5,7,0,0,0,0,7,0,7,0,7,0,0,0,7,0,6,6,6,5,2,0,0,0,0,2,0,0,0,2,2,0,3,5,7,0,0,0,0,7,0,7,0,7,0,0,0,7,0,6,6,6,5,2,0,0,0,0,2,0,0,0,2,2,0,3,5,7,0,0,0,0,7,0,7,0,7,0,0,0,7,0,6,6,6,5,2,0,0,0,0,2,0,0,0,2,2,0,3,5,7,0,0,0,0,7,0,7,0,7,0,0,0,7,0,6,6,6,5,2,0,0,0,0,2,0,0,0,2,2,0,3,5,7,0,0,0,0,7,0,7,0,7,0,0,0,7,0,6,6,6,5,2,0,0,0,0,2,0,0,0,2,2,0,3,5,7,0,0,0,0,7,0,7,0,7,0,0,0,7,0,6,6,6,5,2,0,0,0,0,2,0,0,0,2,2,0,3,5,7,0,0,0,0,7,0,7,0,7,0,0,0,7,0,6,6,6,5,2,0,0,0,0,2,0,0,0,2,2,0,3,5,7,0,0,0,0,7,0,7,0,7,0,0,0,7,0,6,6,6,5,2,0,0,0,0,2,0,0,0,2,2,0,3,5,7,0,0,0,0,7,0,7,0,7,0,0,0,7,0,6,6,6,5,2,0,0,0,0,2,0,0,0,2,2,0,3,5,7,0,0,0,0,7,0,7,0,7,0,0,0,7,0,6,6,6,5,2,0,0,0,0,2,0,0,0,2,2,0,3,5,7,0,0,0,0,7,0,7,0,7,0,0,0,7,0,6,6,6,5,2,0,0,0,0,2,0,0,0,2,2,0,3,5,7,0,0,0,0,7,0,7,0,7,0,0,0,7,0,6,6,6,5,2,0,0,0,0,2,0,0,0,2,2,0,3,5,7,0,0,0,0,7,0,7,0,7,0,0,0,7,0,6,6,6,5,2,0,0,0,0,2,0,0,0,2,2,0,3,5,7,0,0,0,0,7,0,7,0,7,0,0,0,7,0,6,6,6,5,2,0,0,0,0,2,0,0,0,2,2,0,3,5,7,0,0,0,0,7,0,7,0,7,0,0,0,7,0,6,6,6,5,2,0,0,0,0,2,0,0,0,2,2,0,3,5,7,0,0,0,0,7,0,7,0,7,0,0,0,7,0,6,6,6,0,0,5,2,0,0,0,0,2,0,0,0,2,2,0,3,0,0,15,15,1,5,7,0,0,0,0,7,0,7,0,7,0,0,0,7,0,6,6,6,5,0,0,0,16,16,16,16,16,16,7,0,0,0,0,7,0,7,0,7,0,0,0,7,0,6,6,6,16,1,1]
noncomputable def sT : List Nat := [0,0,1,2,0,0,0,0,2,0,0,0,2,2,0,3,0,0,7,7,1,8,8,8,0,8,9,9,0,9,9,9,8,9,9,9,0,9,9,9,8,9,9,9,0,9,9,9,8,9,9,11,1,1,1,1,1,5,5,0,5,12]
/-- the type's dict, told in full -/
noncomputable def tdE (P : Params) (tg : Bool) (X Z : Vals) (d c : Nat) (ops : Value) : Obj := mkD P kT (rg X.t 46 3 ++ rg X.t 50 21) ((match tg with
  | true => [.str (.mk #[114, 101, 99, 111, 114, 100]) (Z.t 0), .str (.mk #[116]) (Z.t 1), .int 71 (X.t 49), .none, .none, .none, rf (Z.r 0), .int 0 (Z.t 2), rf (Z.r 1), rf (Z.r 2), .none, .bool true, rf d, rf c, .none, .none, .bool true]
  | false => [.str (.mk #[105, 110, 116]) (Z.t 0), .str (.mk #[116]) (Z.t 1), .int 71 (X.t 49), .none, .int (-8) (Z.t 3), .int 7 (Z.t 4), rf (Z.r 0), .int 0 (Z.t 2), rf (Z.r 1), rf (Z.r 2), .none, .bool true, rf d, rf c, .none, .none, .bool false]) ++
  [.none, .bool false, .bool false, .bool false, .bool false, .bool false, ops]) 24
/-- the derived type's letters -/
noncomputable def MB (tg : Bool) (Z : Vals) (t : Nat → Tok) (ty d c : Nat) : Vals :=
  { v0 with
    t := fun j => (match tg with
      | true => svAt [28, 30, 33, 1, 35, 37, 39, 41, 44, 48, 50, 52, 54, 56, 58, 60, 62, 64, 66, 68, 70, 72, 74, 76, 78] t
      | false => svAt [8, 10, 13, 110, 15, 17, 19, 21, 24, 28, 30, 32, 34, 36, 38, 40, 42, 44, 46, 48, 50, 52, 54, 56, 58] t).getD j 0
    v := fun j => ((match tg with
      | true => [.str (.mk #[114, 101, 99, 111, 114, 100]) (Z.t 0), .str (.mk #[100]) (t 0), rf ty, .none, .none]
      | false => [.str (.mk #[105, 110, 116]) (Z.t 0), .str (.mk #[100]) (t 0), rf ty, .int (-8) (Z.t 3), .int 7 (Z.t 4)]) ++
      [rf (Z.r 0), .int 0 (Z.t 2), rf (Z.r 1), rf (Z.r 2), .none, .bool true, rf d, rf c, .none, .none, .none, .bool false, .bool false, .bool false, .bool false, .bool false] : List Value).getD j .none }
noncomputable def insM (tg : Bool) (X Z : Vals) (P : Params) (σ : Nat → Nat) (y : Vals) : List Obj :=
  [frN P (List.range 17) y.t (fun j => match j with | 6 => .bool tg | 8 => rf (σ 1) | j => y.v j), inst 223 (σ 2 + 417),
   tdE P tg X Z (match tg with | true => σ 4 | false => Z.r 3) (match tg with | true => σ 5 | false => Z.r 4) (rf (σ 3)), dO (y.e 2) (y.n 2)] ++ match tg with | true => [lO #[] 0, lO #[] 0] | false => []
noncomputable def kM (tg : Bool) (X Z : Vals) : Seg := ⟨match tg with | true => 6 | false => 4, fun P T σ x => .tree (lawT T 10 (σ 0 + 417)), insM tg X Z,
  match tg with | true => [0, 1, 2, 3, 4, 5, 32, 33, 41, 43] | false => [0, 1, 2, 3, 5, 6, 14],
  fun P σ τ y => [frN P (List.range 18) (fun j => match j with | 17 => τ (match tg with | true => 138 | false => 115) | j => y.t j) (fun j => match j with | 6 => .bool tg | 8 => rf (σ 1) | 17 => rf (σ (match tg with | true => 33 | false => 6)) | j => y.v j)] ++ (insM tg X Z P σ y).tail ++
    (match tg with
      | true => [mdD P true (MB true Z τ (σ 1) (σ 4) (σ 43)) (rf (σ 41)), inst 223 (σ 32 + 417), dO (y.e 2) (y.e 2).size, lO #[] 0]
      | false => [mdD P false (MB false Z τ (σ 1) (Z.r 3) (Z.r 4)) (rf (σ 14)), inst 223 (σ 5 + 417), dO (y.e 2) (y.e 2).size]),
  fun P T σ τ x => .tree (lawT T 11 (σ 0 + 417)), match tg with | true => 38 | false => 12, match tg with | true => 139 | false => 116, 20, 60,
  fun c => match tg, c with | true, true => 2160 | true, false => 2180 | false, _ => 1647, fun c => match tg with | true => sM1 c | false => sM0,
  fun P T σ τ y => match tg with
    | true => [dcopyUse σ 42 128 41 3 (y.e 2) (y.n 2), listNewUse σ 42 134 (rf (σ 6)), listInitUse σ 43 134 42 6 (lO #[] 0) #[]]
    | false => [dcopyUse σ 15 108 14 3 (y.e 2) (y.n 2)]⟩
noncomputable def insT (X : Vals) (P : Params) (σ : Nat → Nat) (y : Vals) : List Obj :=
  [frN P (List.range 18) y.t (fun j => match j with | 8 => rf (σ 1) | 9 => rf (σ 4) | j => y.v j), inst 223 (σ 2 + 417), tyD P X 46 34 71 (rf (σ 3)), dO (y.e 2) (y.n 2), lO (y.a 2) (y.n 102)]
/-- due and table -/
noncomputable def kT2 (X : Vals) : Seg := ⟨5, fun P T σ x => .tree (lawT T 11 (σ 0 + 417)), insT X, [0, 1, 2, 3, 4, 5, 6, 11],
  fun P σ τ y => [frN P (List.range 20) (fun j => match j with | 18 => τ 1 | 19 => τ 2 | j => y.t j) (fun j => match j with | 8 => rf (σ 1) | 9 => rf (σ 4) | 18 => rf (σ 6) | 19 => rf (σ 5) | j => y.v j)] ++ (insT X P σ y).tail ++
    [lO #[] 0, dO (y.e 2) (y.e 2).size, itO (σ 4 + 417) 0],
  fun P T σ τ x => .tree (loopT T 12 (rf (σ 11)) (σ 0 + 417)), 7, 3, 20, 60, fun _ => 110, fun _ => sT, fun P T σ τ y => [dcopyUse σ 7 1 6 3 (y.e 2) (y.n 2)]⟩
end Mine
end
section
set_option maxRecDepth 100000
namespace Mine
open PySem PySem.W PySem.W.X
/-- the law at a loop's call: the loop, then the rest -/
theorem loop_good {M : Model} {n : Nat} {κ : TK} {T : KT} {k : Nat} {it : Value} {a : Addr} {s : Shared}
    (H : GoodC M (n + 1) none (.base (fun _ => True) fun r s' => r = .ok .next ∧ Good M n none κ (lawT T (k + 1) a) s') (loopC T k it a) s) : Good M n none κ (loopT T k it a) s := fun Γ p hΓ hW => by
  unfold loopT
  simp only [bnd_eq, onR_eq, ownF_eq, Sem.wp_bind, Sem.wp_onRaise]
  unfold runOwn run
  rw [Sem.wp_onRaise, Sem.wp_call]
  refine wpCode_mono (fun r s' hr => ?_) (H (Γ.enter (loopC T k it a) none p) p (hΓ.enter _ p rfl) trivial rfl)
  obtain ⟨rfl, hg⟩ := hr
  have z := hg Γ p hΓ hW
  unfold lawT tailR at z
  simp only [bnd_eq, onR_eq, Sem.wp_bind, Sem.wp_onRaise] at z
  exact z
end Mine
end
section
set_option maxRecDepth 100000
namespace Mine
open PySem PySem.W PySem.W.X
noncomputable def tryF : Bool → Sem Flow → List ExceptHandler → Sem Flow → List Stmt → Env → Sem Flow := Fast.tw11253931983154730583
theorem tryF_eq : tryF = tryStmt := by unfold tryF; rw [← Fast.te11253931983154730583]
noncomputable def fieldF : Value → Nat → Sem Value := Fast.tw6609576154772507232
theorem fieldF_eq : fieldF = field := by unfold fieldF; rw [← Fast.te6609576154772507232]
noncomputable def flightF : Value → Option Addr → Sem Unit := Fast.tw5670386056902412789
theorem flightF_eq : flightF = setFlight := by unfold flightF; rw [← Fast.te5670386056902412789]
noncomputable def tryHs (s : Stmt) : List ExceptHandler := match s with | .Try _ h _ _ _ => h | _ => []
/-- what a loop's own activation does with an exception -/
noncomputable def ownH (env : Env) (x : Value) : Sem Unit := bnd (fieldF x 1) fun v => match v == .none with
  | true => bnd (unsupported "frame.own-activation:exception-without-traceback" : Sem Unit) fun _ => flightF x env.frame
  | false => flightF x env.frame
/-- a loop's call, come back -/
noncomputable def ownR (r : Result) (env : Env) : Sem Flow := onR (match r with | .ok f => .pure f | .error e => .raise e) (ownH env)
/-- the law within its try -/
noncomputable def T3of (T : KT) (t : Sem Flow) (a : Addr) : Sem Fin := bnd (onR (bnd (bnd (tryF false (bnd t fun f => match f with
    | .next => .pure .next
    | f => .pure f) (tryHs (stAt (lawBody T) 16)) (execsF [] (lawEnv T a)) [] (lawEnv T a)) fun f => match f with
    | .next => .pure .next
    | f => .pure f) fun f => match f with
  | .next => execsR ((lawBody T).drop 17) (lawEnv T a)
  | f => .pure f) (leavF (lawEnv T a))) fun f => match f with
  | .ret v => .pure (.done (.ret v))
  | _ => .pure (.done (.ret .none))
noncomputable def loopT3 (T : KT) (it : Value) (a : Addr) : Sem Fin := T3of T (ownF (loopC3 T it a) (lawEnv T a) none) a
noncomputable def errT (T : KT) (e : Value) (a : Addr) : Sem Fin := T3of T (ownR (.error e) (lawEnv T a)) a
theorem ownH_eq (env : Env) (x : Value) : ownH env x = (do
    if (← field x 1) == .none then unsupported "frame.own-activation:exception-without-traceback"
    setFlight x env.frame : Sem Unit) := by
  unfold ownH
  simp only [bnd_eq, fieldF_eq, flightF_eq]
  show (field x 1).bind _ = (field x 1).bind _
  refine congrArg (Sem.bind (field x 1)) (funext fun v => ?_)
  cases h : (v == .none) <;> rfl
theorem loop3_call (T : KT) (it : Value) (a : Addr) : loopT3 T it a = .call (loopC3 T it a) none true [] fun r => T3of T (ownR r (lawEnv T a)) a := by
  have e : ∀ r, ownR r (lawEnv T a) = Sem.onRaise (match r with | .ok f => .pure f | .error e => .raise e) (fun x => do
      if (← field x 1) == .none then unsupported "frame.own-activation:exception-without-traceback"
      setFlight x (lawEnv T a).frame) := fun r => by
    unfold ownR
    rw [onR_eq]
    exact congrArg _ (funext fun x => ownH_eq _ x)
  unfold loopT3
  simp only [e]
  unfold T3of
  simp only [bnd_eq, onR_eq, ownF_eq, tryF_eq]
  kernel_rfl
theorem T3_next {M : Model} {n : Nat} {κ : TK} {T : KT} {a : Addr} {s : Shared} (h : Good M n none κ (lawT T 17 a) s) : Good M n none κ (T3of T (ownR (.ok .next) (lawEnv T a)) a) s := by
  unfold T3of ownR
  simp only [bnd_eq, onR_eq, tryF_eq, execsF_eq]
  unfold lawT tailR at h
  simp only [bnd_eq, onR_eq] at h
  exact h
theorem loop3_good {M : Model} {n : Nat} {κ : TK} {T : KT} {it : Value} {a : Addr} {s : Shared}
    {W : Ctx → Prop} (hW : ∀ Γ p, κ.W Γ → W (Γ.enter (loopC3 T it a) none p))
    (H : GoodC M (n + 1) none (.base W fun r s' => (r = .ok .next ∧ Good M n none κ (lawT T 17 a) s') ∨ ∃ e, r = .error e ∧ Good M n none κ (errT T e a) s') (loopC3 T it a) s) : Good M n none κ (loopT3 T it a) s := by
  rw [loop3_call]
  intro Γ p hΓ w
  rw [Sem.wp_call]
  refine wpCode_mono (fun r s' hr => ?_) (H (Γ.enter (loopC3 T it a) none p) p (hΓ.enter _ p rfl) (hW Γ p w) rfl)
  rcases hr with ⟨rfl, h⟩ | ⟨e, rfl, h⟩
  · exact T3_next h Γ p hΓ w
  · exact h Γ p hΓ w
end Mine
end
section
set_option maxRecDepth 100000
set_option maxHeartbeats 4000000
namespace Mine
open PySem PySem.W PySem.W.X
noncomputable def sC : List Nat := [0,1,4,4,4,0,4,4,0,0,0,0,0,0,0,0,0,0,0,0,0,0,0,0,0,0,0,0,0,0,0,0,0,0,10,0,10,0,0,0,0,0,0,0,11,11,11,11,11,11,11,11,11,11,11,11,11,11,11,11,11,11,10,0,0,0,0,10,0,10,0,10,0,0,0,10,0,9,9,9,11,11,10,0,0,0,0,10,0,10,0,10,0,0,0,10,0,9,9,9,11,11,10,0,0,0,0,10,0,10,0,10,0,0,0,10,0,9,9,9,11,11,10,0,0,0,0,10,0,10,0,10,0,0,0,10,0,9,9,9,11,11,10,0,0,0,0,10,0,10,0,10,0,0,0,10,0,9,9,9,11,11,10,0,0,0,0,10,0,10,0,10,0,0,0,10,0,9,9,9,11,11,10,0,0,0,0,10,0,10,0,10,0,0,0,10,0,9,9,9,0,0,0,0,0,0,0,0,0,0,0,0,0,0,0,0,0,0,0,0,0,0,0,0,0,0,0,0,0,0,14,0,14,0,0,0,0,0,0,15,15,15,15,15,15,15,15,15,15,15,15,14,0,0,0,0,14,0,14,0,14,0,0,0,14,0,13,13,13,15,15,14,0,0,0,0,14,0,14,0,14,0,0,0,14,0,13,13,13,15,15,14,0,0,0,0,14,0,14,0,14,0,0,0,14,0,13,13,13,15,15,14,0,0,0,0,14,0,14,0,14,0,0,0,14,0,13,13,13,15,14,0,0,0,0,14,0,14,0,14,0,0,0,14,0,13,13,13,15,14,0,0,0,0,14,0,14,0,14,0,0,0,14,0,13,13,13,15,14,0,0,0,0,14,0,14,0,14,0,0,0,14,0,13,13,13,15,14,0,0,0,0,14,0,14,0,14,0,0,0,14,0,13,13,13,15,14,0,0,0,0,14,0,14,0,14,0,0,0,14,0,13,13,13,15,14,0,0,0,0,14,0,14,0,14,0,0,0,14,0,13,13,13,15,14,0,0,0,0,14,0,14,0,14,0,0,0,14,0,13,13,13,15,14,0,0,0,0,14,0,14,0,14,0,0,0,14,0,13,13,13,15,14,0,0,0,0,14,0,14,0,14,0,0,0,14,0,13,13,13,1,1,0,0,0,0,1,0,1,20,20,20,0,20,20,0,1,1,1,1,5,0,0,0,0,5,0,0,0,5,5,0,6,0,7,7,2,1,8,8,0,8,22]
noncomputable def ksC (told : Bool) : List Nat := match told with | true => List.range 21 | false => List.range 20
noncomputable def cnt3 : Nat → Int
  | 0 => 0
  | 1 => 19999
  | _ => 20000
noncomputable def cntT (τ : Nat → Tok) : Nat → Tok
  | 0 => τ 58
  | 1 => τ 60
  | _ => 638
noncomputable def SC (a t : Nat → Nat) : Vals :=
  { v0 with
    t := fun j => (svAt [29, 31, 33, 35, 37, 39, 41, 43, 45, 47, 50, 48, 53, 56] t).getD j 0
    v := fun j => ([rf (a 9), .none, rf (a 11), .none, .none, rf (a 15), rf (a 16), rf (a 17), rf (a 18), .int 100 (t 51), .int 0 (t 54)] : List Value).getD j .none }
noncomputable def vC3 (σ : Nat → Nat) (y : Vals) : Nat → Value := fun j => match j with | 1 => rf (σ 1) | 2 => rf (σ 4) | 3 => rf (σ 3) | 9 => rf (σ 7) | j => y.v j
noncomputable def tlC (X : Vals) (P : Params) (σ : Nat → Nat) (y : Vals) : List Obj := [lO #[rf (y.r 1), .ref (y.r 0)] 2, inst 141 (σ 5 + 417), rootD P X (y.i 1) (y.t 94) (σ 6)]
/-- scope, count, the counts' key -/
noncomputable def kSc (told : Bool) (v : Nat) (X : Vals) : Seg := ⟨8, fun P T σ x => .tree (lawT T 13 (σ 0 + 417)),
  fun P σ y => [frN P (ksC told) y.t (vC3 σ y), sandO P (y.t 30) (y.t 31) (y.t 32) (σ 2 + 417) (y.i 0), lO (y.a 0) (y.n 100)] ++ tlC X P σ y ++ [dO (y.e 0) (y.n 0), lO (y.a 2) (y.n 102)],
  List.range 8 ++ [13, 12, 21],
  fun P σ τ y => [frN P (ksC told ++ [21, 22]) (fun j => match j with | 21 => τ 57 | 22 => τ 79 | j => y.t j) (fun j => match j with | 21 => rf (σ 13) | 22 => .int (cnt3 v) (cntT τ v) | j => vC3 σ y j),
      sandO P (y.t 30) (y.t 31) (τ 70) (σ 2 + 417) (y.i 0 + 1), lO (y.a 0) (y.n 100)] ++ tlC X P σ y ++
    [dO ((y.e 0).push (ent P inhS 636 (.int (cnt3 v) (cntT τ v)))) (y.n 0 + 1), lO (y.a 2) (y.n 102), inst 331 (σ 12 + 417), scD P (SC σ τ) (.ref (y.r 0)), itO (σ 7 + 417) 0],
  fun P T σ τ x => .tree (loopT3 T (rf (σ 21)) (σ 0 + 417)), 14, 82, 20, 60, fun _ => 843, fun _ => sC,
  fun P T σ τ y => [svUse P σ τ 20 62 1 2 (y.t 30) (y.t 31) (y.t 32) (y.a 0) (y.n 100) (y.i 0) 3 (τ 61) (Int.ofNat v), dnewUse P σ 21 81 6 (y.e 0) (y.n 0) inhS 636 (.int (cnt3 v) (cntT τ v))]⟩
end Mine
end
section
set_option maxRecDepth 100000
set_option maxHeartbeats 4000000
namespace Mine
open PySem PySem.W PySem.W.X
/-- the loops' ends -/
noncomputable def kE1 (k f : Nat) : Seg := ⟨1, fun P T σ x => .code (loopC T 9 (.ref (σ 0 + 417)) (f + 417)), fun P σ x => [rngO (Int.ofNat k) 0], [0], fun P σ τ x => [rngO (Int.ofNat k) 0], fun P T σ τ x => .res (.ok .next), 2, 0, 30, 60, fun _ => 17, fun _ => [1, 0, 1, 1, 1, 1, 3], fun _ _ _ _ _ => []⟩
noncomputable def kE2 (n f : Nat) : Seg := ⟨2, fun P T σ x => .code (loopC T 12 (.ref (σ 0 + 417)) (f + 417)), fun P σ x => [itO (σ 1 + 417) (Int.ofNat n), lO (refsOf x.r n) (x.n 0)], [0, 1], fun P σ τ x => [itEnd (Int.ofNat n), lO (refsOf x.r n) (x.n 0)], fun P T σ τ x => .res (.ok .next), 2, 0, 30, 60, fun _ => 19, fun _ => [1, 0, 1, 1, 1, 2, 1, 1, 4], fun _ _ _ _ _ => []⟩
noncomputable def kE3 (n f : Nat) : Seg := ⟨2, fun P T σ x => .code (loopC3 T (.ref (σ 0 + 417)) (f + 417)), fun P σ x => [itO (σ 1 + 417) (Int.ofNat n), lO (refsOf x.r n) (x.n 0)], [0, 1], fun P σ τ x => [itEnd (Int.ofNat n), lO (refsOf x.r n) (x.n 0)], fun P T σ τ x => .res (.ok .next), 2, 0, 30, 60, fun _ => 19, fun _ => [1, 0, 1, 1, 1, 2, 1, 1, 4], fun _ _ _ _ _ => []⟩
end Mine
end
section
set_option maxRecDepth 100000
set_option maxHeartbeats 4000000
namespace Mine
open PySem PySem.W PySem.W.X
noncomputable def sDe (L e : Nat) : List Nat := [(e+1),0,0,0,0,(e+1),0,0,0,(e+1),(e+1),0,(e+2),(L+3),(e+1),0,0,0,0,(e+1),0,0,0,(e+1),(e+1),0,(e+2),(e+3),(e+3),(e+3),0,(e+3),(e+3),0,(L+3),(e+1),0,0,0,0,(e+1),0,0,0,(e+1),(e+1),0,(e+2),(e+3),(e+3),(e+3),0,(e+3),(e+3),0,(L+3),(e+1),0,0,0,0,(e+1),0,0,0,(e+1),(e+1),0,(e+2),(L+3),(e+1),0,0,0,0,(e+1),0,0,0,(e+1),(e+1),0,(e+2),6,0,0,0,0,6,0,0,0,6,6,0,7,0,(L+3),(e+1),0,0,0,0,(e+1),0,0,0,(e+1),(e+1),0,(e+2),(e+4),0,0,0,0,(e+4),0,0,0,(e+4),(e+4),0,(e+5),0,(L+3),(e+1),0,0,0,0,(e+1),0,0,0,(e+1),(e+1),0,(e+2),(e+4),0,0,0,0,(e+4),0,0,0,(e+4),(e+4),0,(e+5)]
noncomputable def sE1 : List Nat := [1,0,0,1,1,0,0,2,1,3,0,0,0,0,3,0,0,0,3,3,0,4,0,5,5,5,3,0,1,0,0,1,4,0,5]
noncomputable def sE4 : List Nat := [1,2,0,0,0,0,2,0,0,0,2,2,0,3,1]
noncomputable def nE4 : Nat := 22
noncomputable def sDp (L : Nat) : List Nat := [0, L + 1, L + 1, L + 1, 5, L + 1, L + 1]
noncomputable def sE2 (c : Bool) (n : Nat) : List Nat :=
  let L := 7 + 5 * n
  [1, 2, 2, 2, 0, 2, 2, 3, 0, 0, 0, 0, 3, 0, 0, 0, 3, 3, 0, 4, 0, 5, 5, 0, 5, L + 1, 0, L + 1] ++ (match c with | false => [L + 1, 0, L + 1, L + 1, L + 1] | true => []) ++ sDp L ++
  ((List.range n).flatMap fun j => [L + 3, L + 3, L + 3] ++ sDe L (7 + 5 * j) ++ [0, 0, L + 2, L + 2, L + 2, L + 2, L + 1] ++ sDp L) ++ [L + 5 + n, 1, 1] ++ (match n with | 0 => [L + 3] | _ => [L + 3, L + 3, L + 3])
noncomputable def ksD (told : Bool) : List Nat := ksC told ++ [21, 22]
noncomputable def sumD (y : Vals) : Int := y.i 0 + ((y.a 1).size : Int)
noncomputable def insD1 (told : Bool) (X : Vals) (P : Params) (σ : Nat → Nat) (y : Vals) : List Obj :=
  [frN P (ksD told) y.t (fun j => match j with | 2 => rf (σ 2) | 19 => rf (σ 1) | 22 => .int (y.i 0) (y.t 60) | j => y.v j), lO (y.a 1) (y.n 101), inst 141 (σ 3 + 417), rootD P X (y.i 3) (y.t 94) (σ 4), dO (y.e 0) (y.n 0)]
/-- the count is as told -/
noncomputable def kD1 (told : Bool) (X : Vals) : Seg := ⟨5, fun P T σ x => .tree (lawT T 17 (σ 0 + 417)), insD1 told X, [0, 1, 2, 3, 4], fun P σ τ y => insD1 told X P σ y, fun P T σ τ x => .tree (lawT T 18 (σ 0 + 417)), 0, 8, 20, 60, fun _ => 67, fun _ => sE1,
  fun P T σ τ y => [lenUse σ τ 5 0 1 (y.a 1) (y.n 101), cmpUse "int.__gt__" 5 3 (.int (sumD y) (τ 2)) (.int 20000 638) false, ditemUse σ 5 4 4 (y.e 0) (y.n 0) inhS 636 (.int (sumD y) (y.t 61)), lenUse σ τ 5 5 1 (y.a 1) (y.n 101), cmpUse "int.__ne__" 5 8 (.int (sumD y) (y.t 61)) (.int (sumD y) (τ 7)) false]⟩
/-- an inherited entity as the comprehension reads it -/
noncomputable def heE (P : Params) (z : Vals) (e p : Nat) (σ : Nat → Nat) : List Obj := [inst 52 (σ (e + 1) + 417),
  mkD P kE (rg z.t 0 17) ([z.v 0, .str (z.s 0) (z.t 20), rf (σ (e + 2)), z.v 1, rf (σ (e + 3)), z.v 2, z.v 3, .str (z.s 1) (z.t 21), rf p] ++ rg z.v 4 8) 17,
  tO #[rf (z.r 0), .int (z.i 0) (z.t 22)], inst 31 (σ (e + 4) + 417), mkD P kS (rg z.t 30 11) (rg z.v 20 7 ++ [.str (z.s 2) (z.t 23), rf (z.r 1), z.v 27, z.v 28]) 11]
noncomputable def heT (z : Vals) (num : Value) : Obj := tO #[.str (z.s 0) (z.t 20), rf (z.r 0), .int (z.i 0) (z.t 22), .str (z.s 1) (z.t 21), num, .str (z.s 2) (z.t 23), rf (z.r 1)]
noncomputable def insD2 (told : Bool) (n : Nat) (z : Nat → Vals) (Y Q : Vals) (P : Params) (σ : Nat → Nat) (y : Vals) : List Obj :=
  [lO #[rf (σ 5), rf (σ 2)] 2, inst 141 (σ 3 + 417), qD P Q (y.r 0) (y.r 1) (σ 4), lO ((List.range n).map fun j => rf (σ (7 + 5 * j))).toArray (y.n 101), inst 141 (σ 6 + 417), pD P Y (y.r 2) (y.r 3) (y.r 4)] ++ (List.range n).flatMap fun j => heE P (z j) (7 + 5 * j) (σ 5) σ
/-- heard -/
noncomputable def kD2 (told : Bool) (n : Nat) (z : Nat → Vals) (Y Q : Vals) : Seg := ⟨7 + 5 * n, fun P T σ x => .tree (lawT T 18 (σ 0 + 417)),
  fun P σ y => frN P (ksD told) y.t (fun j => match j with | 3 => rf (σ 1) | j => y.v j) :: insD2 told n z Y Q P σ y,
  List.range (7 + 5 * n) ++ (8 + 5 * n) :: (List.range n).map (10 + 5 * n + ·),
  fun P σ τ y => frN P (ksD told ++ [23]) (fun j => match j with | 23 => τ (2 + 13 * n) | j => y.t j) (fun j => match j with | 3 => rf (σ 1) | 23 => rf (σ (8 + 5 * n)) | j => y.v j) :: insD2 told n z Y Q P σ y ++
    lO ((List.range n).map fun j => rf (σ (10 + 5 * n + j))).toArray n :: (List.range n).map fun j => heT (z j) (.int 3 (Y.t 105)),
  fun P T σ τ x => .tree (lawT T 19 (σ 0 + 417)), 5 + n, 3 + 13 * n, 20, 60,
  fun c => match n, c with | 0, true => 74 | 0, false => 84 | n, true => 78 + 242 * n | n, false => 88 + 242 * n, fun c => sE2 c n, fun _ _ _ _ _ => []⟩
/-! the last comparisons -/
noncomputable def retX (T : KT) : PySem.Expr := match stAt (lawBody T) 19 with | .Return (some e) _ => e | _ => default
noncomputable def andX (e : PySem.Expr) (k : Nat) : PySem.Expr := match e with | .BoolOp _ xs _ => xs.getD k default | _ => default
noncomputable def eqK (T : KT) (a : Addr) (w : Value) : Sem Value := bnd (standAt (retX T).pos) fun _ => bnd (holdF [w] (truthF w)) fun t => match t with
  | false => .pure w
  | true => evalR (andX (retX T) 1) (lawEnv T a)
noncomputable def eqF (T : KT) (a : Addr) (m : Sem Value) : Sem Fin := bnd (onR (bnd (bnd m fun w => (.pure (.ret w) : Sem Flow)) fun (f : Flow) => (match f with
  | .next => execsR [] (lawEnv T a)
  | f => .pure f : Sem Flow)) (leavF (lawEnv T a))) fun (f : Flow) => (match f with
  | .ret v => .pure (.done (.ret v))
  | _ => .pure (.done (.ret .none)) : Sem Fin)
noncomputable def eqT1 (T : KT) (a : Addr) (u v : Value) : Sem Fin := eqF T a (bnd (bnd (standAt (andX (retX T) 0).pos) fun _ => operF [u, v] (compareR .Eq u v)) (eqK T a))
noncomputable def eqT2 (T : KT) (a : Addr) : Sem Fin := eqF T a (eqK T a (.bool true))
noncomputable def eqT3 (T : KT) (a : Addr) (u v : Value) : Sem Fin := eqF T a (bnd (standAt (andX (retX T) 1).pos) fun _ => operF [u, v] (compareR .Eq u v))
noncomputable def kD3 (told : Bool) : Seg := ⟨1, fun P T σ x => .tree (lawT T 19 (σ 0 + 417)), fun P σ y => [frN P (ksD told ++ [23]) y.t (fun j => match j with | 19 => rf (y.r 0) | 23 => rf (y.r 1) | j => y.v j)], [0],
  fun P σ τ y => [frN P (ksD told ++ [23]) y.t (fun j => match j with | 19 => rf (y.r 0) | 23 => rf (y.r 1) | j => y.v j)], fun P T σ τ y => .tree (eqT1 T (σ 0 + 417) (rf (y.r 1)) (rf (y.r 0))), 0, 0, 20, 60, fun _ => 5, fun _ => [1, 1], fun _ _ _ _ _ => []⟩
noncomputable def insD4 (told tg : Bool) (M : Vals) (P : Params) (σ : Nat → Nat) (y : Vals) : List Obj := [frN P (ksD told ++ [23]) y.t (fun j => match j with | 17 => rf (σ 1) | 18 => rf (y.r 0) | j => y.v j), inst 223 (σ 2 + 417), mdD P tg M (rf (y.r 1))]
noncomputable def kD4 (told tg : Bool) (M : Vals) : Seg := ⟨3, fun P T σ x => .tree (eqT2 T (σ 0 + 417)), insD4 told tg M, [0, 1, 2], fun P σ τ y => insD4 told tg M P σ y, fun P T σ τ y => .tree (eqT3 T (σ 0 + 417) (rf (y.r 1)) (rf (y.r 0))), 0, 1, 20, 60, fun _ => nE4, fun _ => sE4, fun _ _ _ _ _ => []⟩
/-! ### a comparison by the library's rules -/
theorem room_inv {M : Model} {n : Nat} {hd : Option Value} {Γ : Ctx} {Q : Unit → Pos → Shared → Prop} {E : Value → Pos → Shared → Prop} {p : Pos} {s : Shared} {what : String} (hΓ : Ok n hd Γ) (hn : n < 90)
    (h : Sem.wp M Γ (cRoom what) Q E p s) : Q () p s := by
  unfold cRoom at h
  simp only [Sem.wp_bind'] at h
  have h : Sem.wp M Γ (if (((Γ.code, p) :: Γ.below).map (·.1.cUnits)).sum ≥ cLine then _ else _) Q E p s := h
  rw [if_neg] at h
  · exact h
  · show ¬ unitsOf ((Γ.code, p) :: Γ.below) ≥ cLine
    rw [unitsOf_cons]
    have := cUnits_le Γ.code
    have := hΓ.units
    have : cLine = 9900 := rfl
    omega
theorem lr_room {α : Type} (what : String) (a b : Value) (hab : refTwo a b = true) (f : Unit → Sem α) :
    Rl (unroom (holding [a, b] ((cRoomFor what [a, b]).bind f))) (holding [a, b] ((cRoomFor what [a, b]).bind f)) := by
  intro M n hd Γ Q E p s o l w
  have key : ∃ vs, holding [a, b] ((cRoomFor what [a, b]).bind f) = ((cRoom what).bind f).keep vs := by
    cases a with
    | ref x => cases b <;> exact ⟨_, rfl⟩
    | _ => cases b <;> first | (cases hab; done) | exact ⟨_, rfl⟩
  obtain ⟨vs, e⟩ := key
  rw [e] at w ⊢
  rw [unroom_room, Sem.wp_keep]
  rw [Sem.wp_keep, Sem.wp_bind] at w
  exact room_inv o l w
theorem lr_compare {op : CmpOp} (h : eqOp op = true) (a b : Value) : Rl (compareR op a b) (compareOp op a b) := by
  unfold compareR
  rw [cmpF_eq]
  cases hab : refTwo a b with
  | false => exact Rl.refl _
  | true =>
    have e : compareOp op a b = richCompare op a b := by cases op <;> first | rfl | cases h
    dsimp only
    rw [e]
    unfold richCompare
    exact lr_room _ a b hab _
theorem in_around (Γ : Ctx) : Γ.In (aroundOf Γ) := in_aroundOf Γ
/-- the tree behind a comparison that is told by the library -/
theorem good_cmp {M : Model} {n : Nat} {κ : TK} {T : KT} {a : Addr} {s : Shared} {pos : Pos} {u v : Value} {K : Value → Sem Value} {r : Bool} (hn : n < 90)
    (hc : ∀ A : Around, A.units ≤ 14 + 10 * n → ∀ (Q : Value → Shared → Prop) (E : Value → Shared → Prop), Q (.bool r) s → wpAny M A (compareOp .Eq u v) Q E s)
    (h : Good M n none κ (eqF T a (K (.bool r))) s) : Good M n none κ (eqF T a (bnd (bnd (standAt pos) fun _ => operF [u, v] (compareR .Eq u v)) K)) s := fun Γ p hΓ hW => by
  unfold eqF
  simp only [bnd_eq, onR_eq, operF_eq, Sem.wp_bind, Sem.wp_onRaise]
  show Sem.wp M Γ (Sem.at pos fun _ => .pure ()) _ _ p s
  rw [Sem.wp_at]
  show Sem.wp M Γ (operate [u, v] (compareR .Eq u v)) _ _ pos s
  rw [Sem.wp_operate]
  refine lr_compare rfl u v M n none Γ _ _ pos s hΓ hn ?_
  have hu : (aroundOf Γ).units ≤ 14 + 10 * n := by
    show Γ.units ≤ _
    have e : Γ.units = Γ.code.cUnits + unitsOf Γ.below := rfl
    have := cUnits_le Γ.code
    have := hΓ.units
    omega
  have w := hc (aroundOf Γ) hu (fun w s' => w = .bool r ∧ s' = s) (fun _ _ => False) ⟨rfl, rfl⟩ Γ pos (in_around Γ)
  refine Sem.wp_mono M Γ _ (fun w p' s' q => ?_) (fun _ _ _ q => q.elim) pos s w
  obtain ⟨rfl, rfl⟩ := q
  have h := h Γ p' hΓ hW
  unfold eqF at h
  simp only [bnd_eq, onR_eq, Sem.wp_bind, Sem.wp_onRaise] at h
  exact h
theorem good_eqEnd {M : Model} {n : Nat} {κ : TK} {T : KT} {a : Addr} {s : Shared} {w : Value} (h : Post M κ (.ok (.ret w)) s) : Good M n none κ (eqF T a (.pure w)) s := fun Γ p hΓ hW => by
  unfold eqF
  simp only [bnd_eq, onR_eq, Sem.wp_bind, Sem.wp_onRaise]
  exact h
end Mine
end
section
set_option maxRecDepth 100000
set_option maxHeartbeats 4000000
namespace Mine
open PySem PySem.W PySem.W.X
noncomputable abbrev Fix.P (F : Fix) : Params := F.w.params
noncomputable abbrev Fix.T (F : Fix) : KT := F.kt F.w.params
noncomputable abbrev Fix.M (F : Fix) : Model := model PySem.Challenge.pw_rg0017_01 F.w
/-- the addresses where the first loop's objects lie -/
noncomputable def aA (z j : Nat) : Nat := z + (cA j - 3)
noncomputable def aB (z j : Nat) : Nat := z + (cB j - 3)
noncomputable def dA (tg : Bool) : Nat := match tg with | true => 132 | false => 127
noncomputable def AL (tg : Bool) (z f sd c : Nat) : Nat → Nat := AA tg (z + dA tg + 2) f sd c (aA z) (aB z)
section
variable {F : Fix} {K : Addr → Option Obj} {dr : Drawn} {os : OsState} {rest : List (Nat × Obj)} {s : Shared} {z n : Nat} {κ : TK}
theorem usesA {σ τ : Nat → Nat} {us : List Use} {m₀ i₀ : Nat} {tg : Bool} {y : Vals} (hA : AllRuns F.kt) (H : F.Ok) (O : VOk (F.vc σ τ 60 us K dr os m₀ i₀)) (f : SvFact (y.a 0) 0 2 (bi tg)) : ∀ u ∈ uA tg F.w.params (F.kt F.w.params) σ τ y, UseOk (F.vc σ τ 60 us K dr os m₀ i₀) u := by
  have kind : ∀ (m i : Nat) (x : Str) (t : Tok) (b : Bool), frameKinds.any (· == x) = b → UseOk (F.vc σ τ 60 us K dr os m₀ i₀) (kindUse m i x t b) := fun m i x t b h => kind_use hA.hTop O m i x t h
  have hs : ∀ (es : Array DictEntry) (n : Str) (vs : Vals) (m i : Nat) (js : List Nat), js.Nodup → js.length = 5 → AllStr (vs.e 0) → lookS (vs.e 0) (vs.s 0) = none → UseOk (F.vc σ τ 60 us K dr os m₀ i₀) (kSettle.use F.w.params (F.kt F.w.params) σ τ m i js vs) := fun _ _ vs m i js h1 h2 h3 h4 =>
    kSettle_ok (hkSettle := hA.hkSettle) (H := H) (O := O) (hlim := Nat.le_of_ble_eq_true rfl) (m := m) (i := i) (hnd := h1) (hL := h2) (hf := ⟨h3, h4⟩)
  unfold uA
  refine List.forall_mem_append.mpr ⟨?_, ?_⟩
  · exact all_cons (hs #[] (.mk #[112]) _ _ _ _ (by decide) rfl (by unfold AllStr; kernel_rfl) (by kernel_rfl)) <| all_cons (kind _ _ _ _ _ (by kernel_rfl)) <|
      all_cons (dget3_none O _ _ _ _ _ _ (by unfold AllStr; kernel_rfl) (by kernel_rfl)) <| all_cons (dnew_use O _ _ _ _ _ _ (by unfold AllStr; kernel_rfl) (Nat.le_of_ble_eq_true (by kernel_rfl)) (by kernel_rfl)) <|
      all_cons (ddflt_use O _ _ _ _ _ _ (by unfold AllStr; kernel_rfl) (Nat.le_of_ble_eq_true (by kernel_rfl)) (by kernel_rfl)) <| all_cons (kind _ _ _ _ _ (by kernel_rfl)) <|
      all_cons (hs #[] (.mk #[113]) _ _ _ _ (by decide) rfl (by unfold AllStr; kernel_rfl) (by kernel_rfl)) <| all_cons (kind _ _ _ _ _ (by kernel_rfl)) <|
      all_cons (dget3_none O _ _ _ _ _ _ (by unfold AllStr; kernel_rfl) (by kernel_rfl)) <| all_cons (dnew_use O _ _ _ _ _ _ (by unfold AllStr; kernel_rfl) (Nat.le_of_ble_eq_true (by kernel_rfl)) (by kernel_rfl)) <|
      all_cons (ddflt_use O _ _ _ _ _ _ (by unfold AllStr; kernel_rfl) (Nat.le_of_ble_eq_true (by kernel_rfl)) (by kernel_rfl)) <| all_cons (kind _ _ _ _ _ (by kernel_rfl)) <|
      all_cons (sv_use hA.hSv H O (Nat.le_of_ble_eq_true rfl) _ _ (by decide) _ _ _ _ _ f) all_nil
  · cases tg with
    | true => exact all_cons (listNew_use O _ _ _) <| all_cons (listInit_use O _ _ _ _ (T := "list") (by decide) rfl rfl (by decide) (Nat.le_of_ble_eq_true (by kernel_rfl))) <|
        all_cons (listNew_use O _ _ _) <| all_cons (listInit_use O _ _ _ _ (T := "list") (by decide) rfl rfl (by decide) (Nat.le_of_ble_eq_true (by kernel_rfl))) all_nil
    | false => exact all_nil
theorem phA {tg : Bool} {v f sd c : Nat} {y : Vals} (hA : AllRuns F.kt) (hRA : (kA tg).Run F.kt) (hRB : (kB v).Run F.kt) (H : F.Ok) (HK : KOk F K) (hn : n ≤ 20) (f1 : SvFact (y.a 0) 0 2 (bi tg)) (f2 : SvFact (y.a 0) 1 4 (Int.ofNat v))
    (D : Hp K dr os s z ([f, sd, c].zip (insA F.P (adr [f, sd, c] z) y) ++ rest))
    (hk : ∀ s' t st, Hp K dr os s' (z + dA tg + 3) ((rg (AL tg z f sd c) 0 18).zip (rngO 0 (Int.ofNat v + 1) :: j1 tg false (XA tg (aA z) (aB z) t y) F.P (AL tg z f sd c) (xA F.P tg t 2 st y)) ++
        (((restX tg).map (adr [f, sd, c] z)).zip (restA F.P tg (aA z) t) ++ rest)) → Good F.M 20 none κ (loopT F.T 9 (rf (z + dA tg + 2)) (f + 417)) s') :
    Good F.M n none κ (lawT F.T 1 (f + 417)) s := by
  refine Seg.step_t (S := kA tg) [f, sd, c] y rfl hRA H HK D rfl rfl rfl (Nat.le_of_ble_eq_true rfl) (by cases tg <;> kernel_rfl) (fun τ K' O => uses_all (usesA hA H O f1)) (fun _ => rfl) hn (fun s' τ E => ?_)
  show Good F.M 20 none κ (lawT F.T 9 (f + 417)) s'
  let y2 : Vals := { v0 with
    t := fun j => (match Nat.blt j 10 with | true => (xA F.P tg τ 1 (τ 457) y).t (1 + j) | false => (match j with | 18 => y.t 2 | 19 => y.t 3 | _ => τ 457))
    a := fun _ => y.a 0
    n := fun _ => y.n 100
    v := fun j => ([.ref 416, rf sd, rf (aA z 3), rf (aA z 11), .str (.mk #[113]) (τ 54), rf (aA z 56), .bool tg, rf (aB z 11), rf (aB z (tA tg)), rf (aB z (rA tg))] : List Value).getD j .none }
  let R2 : List (Nat × Obj) := ((((xsA tg).drop 3).map (adr [f, sd, c] z)).zip ((outA tg F.P (adr [f, sd, c] z) τ y).drop 3))
  have E2 : Hp K dr os s' (z + dA tg) ([f, sd, c].zip (insB F.P (adr [f, sd, c] (z + dA tg)) y2) ++ (R2 ++ rest)) := by
    cases tg <;> exact Eq.mp (by kernel_rfl) E
  refine Seg.step_t (S := kB v) [f, sd, c] y2 rfl hRB H HK E2 rfl rfl rfl (Nat.le_of_ble_eq_true rfl) (by kernel_rfl) (fun τ K' O => uses_all (all_cons (sv_use hA.hSv H O (Nat.le_of_ble_eq_true rfl) _ _ (by decide) _ _ _ _ _ f2) all_nil)) (fun _ => rfl) (Nat.le_refl 20) (fun s' τ' E => ?_)
  refine hk s' τ (τ' 10) ?_
  have E3 := Hp.assoc E
  have e : ((kB v).xs.map (adr [f, sd, c] (z + dA tg))).zip ((kB v).outs F.w.params (adr [f, sd, c] (z + dA tg)) τ' y2) ++ R2 =
      ((kB v).xs.map (adr [f, sd, c] (z + dA tg))).zip ((kB v).outs F.w.params (adr [f, sd, c] (z + dA tg)) τ' y2) ++ R2 := rfl
  cases tg with
  | true =>
    have E4 := Hp.pick2 24 _ E3 [3, 0, 1, 2, 4, 5, 6, 7, 8, 9, 10, 11, 12, 13, 14, 15, 16, 17] [18, 19, 20, 21, 22, 23] (by kernel_rfl) (by decide +kernel)
    exact Eq.mp (by kernel_rfl) E4
  | false =>
    have E4 := Hp.pick2 22 _ E3 [3, 0, 1, 2, 4, 5, 6, 7, 8, 9, 10, 11, 12, 13, 14, 15, 16, 17] [18, 19, 20, 21] (by kernel_rfl) (by decide +kernel)
    exact Eq.mp (by kernel_rfl) E4
end
end Mine
end
section
set_option maxRecDepth 100000
set_option maxHeartbeats 4000000
namespace Mine
open PySem PySem.W PySem.W.X
/-! ### draws -/
structure CellsOk (ys : Array Value) : Prop where
  size : ys.size ≤ 20
  isInt : ∀ j, j < ys.size → ∃ c t, ys[j]? = some (.int c t)
theorem rest_ok : ∀ p ∈ svRest, (0 ≤ p.1 ∧ p.1 < 60) ∧ (0 ≤ p.2.2 ∧ p.2.2 < p.2.1) ∧ (p.2.1 = 2 ∨ p.2.1 = 3 ∨ p.2.1 = 4) := by decide
theorem draw {ys : Array Value} (hc : CellsOk ys) {s m r : Int} (hr : (s, m, r) ∈ svRest) : ∃ v, SvFact ys s m v ∧ 0 ≤ v ∧ v < m := by
  obtain ⟨h1, h2, h3⟩ := rest_ok _ hr
  have hm : 0 < m := by have := h3; simp only at this; omega
  by_cases h : s < ys.size
  · have hs : s.toNat < ys.size := by have := h1.1; simp only at this; omega
    obtain ⟨c, t, e⟩ := hc.isInt _ hs
    refine ⟨c.fmod m, ⟨Nat.le_trans hc.size (by decide), h1, h3, fun _ => ⟨c, t, e, rfl⟩, fun q => absurd h (by omega)⟩, Int.fmod_nonneg_of_pos c hm, Int.fmod_lt_of_pos c hm⟩
  · exact ⟨r, ⟨Nat.le_trans hc.size (by decide), h1, h3, fun q => absurd q h, fun _ => hr⟩, h2⟩
theorem drawB {ys : Array Value} (hc : CellsOk ys) {s r : Int} (hr : (s, 2, r) ∈ svRest) : ∃ b, SvFact ys s 2 (bi b) := by
  obtain ⟨v, h, h0, h1⟩ := draw hc hr
  have : v = 0 ∨ v = 1 := by omega
  rcases this with rfl | rfl
  · exact ⟨false, h⟩
  · exact ⟨true, h⟩
theorem drawN {ys : Array Value} (hc : CellsOk ys) {s m r : Int} (hr : (s, m, r) ∈ svRest) : ∃ v : Nat, SvFact ys s m (Int.ofNat v) ∧ (v : Int) < m := by
  obtain ⟨v, h, h0, h1⟩ := draw hc hr
  refine ⟨v.toNat, ?_, by omega⟩
  have : Int.ofNat v.toNat = v := Int.toNat_of_nonneg h0
  rw [this]; exact h
/-! ### texts that differ -/
theorem nm_inj {j k : Nat} (h : (nm j == nm k) = true) : j = k := by
  have := eq_of_beq h
  have := congrArg (fun s : Str => s.cps.toList.head?) this
  simp [nm] at this
  exact this
theorem nm_ne {j k : Nat} (h : j ≠ k) : (nm j == nm k) = false := by
  cases e : nm j == nm k with
  | false => rfl
  | true => exact absurd (nm_inj e) h
noncomputable def hd? (s : Str) : Option Nat := s.cps.toList.head?
theorem ne_of_hd {s t : Str} (h : hd? s ≠ hd? t) : (s == t) = false := by
  cases e : s == t with
  | false => rfl
  | true => exact absurd (congrArg hd? (eq_of_beq e)) h
theorem hd_op0 (h g : Bool) (k : Nat) : hd? (opS h g 0 k) = some (k + 102) := by simp [hd?, opS]
theorem hd_op1 (h g : Bool) (k : Nat) : hd? (opS h g 1 k) = some 111 := by simp [hd?, opS]
/-! ### dicts whose keys are told apart -/
theorem find_none_iff {es : Array DictEntry} {x : Str} : (es.findIdx? fun e => e.key.isStr x) = none ↔ lookS es x = none := by
  constructor
  · intro h; unfold lookS; rw [h]; rfl
  · exact look_none
theorem dist_push {es : Array DictEntry} (h : DistS es) {P : Params} {x : Str} {t : Tok} {v : Value} (k : lookS es x = none) : DistS (es.push (ent P x t v)) := fun i hi => by
  by_cases q : i < es.size
  · obtain ⟨y, u, h1, h2⟩ := h i q
    refine ⟨y, u, by rw [Array.getElem_push_lt q]; exact h1, ?_⟩
    have e : (es.push (ent P x t v)).extract 0 i = es.extract 0 i := by
      apply Array.ext
      · simp; omega
      · intro j h1 h2; simp at h1 h2; simp [Array.getElem_push_lt (show j < es.size by omega)]
    rw [e]; exact h2
  · have e : i = es.size := by simp at hi; omega
    subst e
    refine ⟨x, t, by simp [ent], ?_⟩
    have e : (es.push (ent P x t v)).extract 0 es.size = es := by
      apply Array.ext
      · simp
      · intro j h1 h2; simp [Array.getElem_push_lt h2]
    rw [e]; exact look_none k
theorem setL_key : ∀ (l : List DictEntry) (x : Str) (v : Value), (setL l x v).map (·.key) = l.map (·.key)
  | [], _, _ => rfl
  | a :: l, x, v => by
    unfold setL
    cases a.key.isStr x <;> simp [setL_key l x v]
theorem findIdx_key (l : List DictEntry) (x : Str) : (l.findIdx? fun e => e.key.isStr x) = ((l.map (·.key)).findIdx? fun k => k.isStr x) := by
  induction l with
  | nil => rfl
  | cons a l ih => simp only [List.findIdx?_cons, List.map_cons, ih]
theorem dist_iff (es : Array DictEntry) : DistS es ↔ ∀ i (h : i < es.size), ∃ x t, (es.toList.map (·.key))[i]? = some (.str x t) ∧ (((es.toList.map (·.key)).take i).findIdx? fun k => k.isStr x) = none := by
  constructor
  · intro h i hi
    obtain ⟨x, t, h1, h2⟩ := h i hi
    refine ⟨x, t, by simp [hi, h1], ?_⟩
    have e : (es.extract 0 i).toList = es.toList.take i := by simp
    rw [← List.map_take, ← findIdx_key, ← e, ← List.findIdx?_toArray]
    exact h2
  · intro h i hi
    obtain ⟨x, t, h1, h2⟩ := h i hi
    refine ⟨x, t, by simpa [hi] using h1, ?_⟩
    have e : (es.extract 0 i).toList = es.toList.take i := by simp
    rw [← List.map_take, ← findIdx_key, ← e, ← List.findIdx?_toArray] at h2
    exact h2
theorem dist_setE {es : Array DictEntry} (h : DistS es) (x : Str) (v : Value) : DistS (setE es x v) := by
  rw [dist_iff] at h ⊢
  rw [setE_toList, setL_key, size_setE]
  exact h
theorem dist_nil : DistS #[] := fun i h => absurd h (by simp)
theorem allS_nil : AllStr #[] := by unfold AllStr; kernel_rfl
end Mine
end
section
set_option maxRecDepth 100000
set_option maxHeartbeats 4000000
namespace Mine
open PySem PySem.W PySem.W.X
noncomputable abbrev Rows := List (Row × Nat)
noncomputable def rowL (P : Params) (X : Vals) (A : Nat → Nat) (q : Row × Nat) : List (Nat × Obj) := (rowX.map (q.2 + ·)).zip (rowO P q.1 (fun j => q.2 + j) (yB (A 5) (A 7)) (A 9) (X.s 0) (X.t 80) (ntX X))
noncomputable def rowsL (P : Params) (X : Vals) (A : Nat → Nat) (qs : Rows) : List (Nat × Obj) := qs.flatMap (rowL P X A)
/-- rows, newest first -/
noncomputable def RowsOk : Rows → Prop
  | [] => True
  | q :: qs => q.1.k = qs.length ∧ q.1.Ok ∧ (q.1.way = 0 ∨ q.1.way = 1 ∨ q.1.way = 2) ∧ RowsOk qs
noncomputable def lat : Rows → Bool
  | [] => false
  | _ => true
/-- values are texts -/
noncomputable def StrVals (P : Params) (es : Array DictEntry) : Prop := ∀ e ∈ es.toList, ∃ x t s u, e = ent P x t (.str s u)
structure I1 (P : Params) (tg : Bool) (qs : Rows) (x : Vals) : Prop where
  rows : RowsOk qs
  spot : x.i 0 = 2 + 3 * (qs.length : Int)
  e0 : AllStr (x.e 0)
  e1 : ∀ j, qs.length ≤ j → lookS (x.e 0) (nm j) = none
  e2 : (x.e 0).size ≤ qs.length
  c0 : AllStr (x.e 1)
  c1 : ∀ j, qs.length ≤ j → j ≤ 3 → lookS (x.e 1) (nm j) = none
  c2 : (x.e 1).size ≤ 2 + qs.length
  c3 : lookS (x.e 1) inhS = none
  c4 : ∀ q ∈ qs, ∃ t, lookS (x.e 1) (nm q.1.k) = some (.int 1 t)
  o0 : (x.a 1).size ≤ qs.length
  r0 : x.a 2 = (qs.reverse.map fun q => rf (q.2 + 64)).toArray
  p0 : AllStr (x.e 2)
  pd : DistS (x.e 2)
  pz : (x.e 2).size ≤ qs.length
  pv : StrVals P (x.e 2)
  p1 : ∀ j, qs.length ≤ j → j ≤ 3 → ∀ h g, lookS (x.e 2) (opS h g 0 j) = none
  p2 : tg = true → ∀ q ∈ qs, q.1.way ≠ 2 → (lookS (x.e 2) q.1.op).isSome = true
  p3 : tg = false → x.e 2 = #[]
  p4 : qs = [] → x.e 2 = #[]
theorem rows_k {qs : Rows} (h : RowsOk qs) : ∀ q ∈ qs, q.1.k < qs.length := by
  induction qs with
  | nil => intro q hq; cases hq
  | cons a qs ih =>
    intro q hq
    rcases List.mem_cons.mp hq with rfl | hq
    · rw [h.1]; simp
    · have := ih h.2.2.2 q hq; simp; omega
theorem strVals_push {P : Params} {es : Array DictEntry} (h : StrVals P es) (x : Str) (t : Tok) (s : Str) (u : Tok) : StrVals P (es.push (ent P x t (.str s u))) := fun e he => by
  rw [Array.toList_push] at he
  rcases List.mem_append.mp he with he | he
  · exact h e he
  · rw [List.mem_singleton.mp he]; exact ⟨x, t, s, u, rfl⟩
theorem setL_vals {P : Params} {l : List DictEntry} (h : ∀ e ∈ l, ∃ x t s u, e = ent P x t (.str s u)) (x : Str) (s : Str) (u : Tok) : ∀ e ∈ setL l x (.str s u), ∃ x t s u, e = ent P x t (.str s u) := by
  induction l with
  | nil => intro e he; cases he
  | cons a l ih =>
    intro e he
    unfold setL at he
    cases q : a.key.isStr x with
    | true =>
      rw [q] at he
      rcases List.mem_cons.mp he with rfl | he
      · obtain ⟨y, t, s', u', rfl⟩ := h a List.mem_cons_self
        exact ⟨y, t, s, u, rfl⟩
      · exact h e (List.mem_cons_of_mem _ he)
    | false =>
      rw [q] at he
      rcases List.mem_cons.mp he with rfl | he
      · exact h e List.mem_cons_self
      · exact ih (fun e he => h e (List.mem_cons_of_mem _ he)) e he
theorem strVals_set {P : Params} {es : Array DictEntry} (h : StrVals P es) (x : Str) (s : Str) (u : Tok) : StrVals P (setE es x (.str s u)) := fun e he => by
  rw [setE_toList] at he
  exact setL_vals h x s u e he
/-- is a way-1 key there already -/
noncomputable def oldB (tg a b : Bool) (way k : Nat) (x : Vals) : Bool := match tg, way with
  | true, 1 => (lookS (x.e 2) (opS (hasB a b) b 1 k)).isSome
  | _, _ => false
theorem I1.facts {P : Params} {tg : Bool} {qs : Rows} {X x : Vals} {a b : Bool} {way l : Nat} (h : I1 P tg qs x) (hl : qs.length + l ≤ 3) (hw : way = 0 ∨ way = 1 ∨ way = 2)
    (da : SvFact (X.a 0) (x.i 0) 2 (bi a)) (db : SvFact (X.a 0) (x.i 0 + 1) 2 (bi b)) (dw : SvFact (X.a 0) (x.i 0 + 1 + 1) 3 (Int.ofNat way)) : F1 tg a b way qs.length l (oldB tg a b way qs.length x) X x := by
  refine ⟨⟨by omega, by omega⟩, hw, da, db, dw, h.e0, h.e1 _ (Nat.le_refl _), by have := h.e2; omega, h.c0, h.c1 _ (Nat.le_refl _) (by omega), by have := h.c2; omega, by have := h.o0; omega, ?_, h.p0, by have := h.pz; omega, ?_⟩
  · rw [h.r0]; simp; omega
  · intro ht hw2
    subst ht
    rcases hw with rfl | rfl | rfl
    · exact h.p1 _ (Nat.le_refl _) (by omega) _ _
    · show (match (lookS (x.e 2) (opS (hasB a b) b 1 qs.length)).isSome with | false => _ | true => _)
      cases q : lookS (x.e 2) (opS (hasB a b) b 1 qs.length) with
      | none => exact rfl
      | some v => exact ⟨rfl, rfl⟩
    · exact absurd rfl hw2
theorem old_ok {P : Params} {tg a b : Bool} {way : Nat} {qs : Rows} {x : Vals} (h : I1 P tg qs x) : oldB tg a b way qs.length x = true → tg = true ∧ way = 1 ∧ lat qs = true := by
  intro e
  unfold oldB at e
  split at e
  · refine ⟨rfl, rfl, ?_⟩
    cases qs with
    | nil => rw [h.p4 rfl] at e; exact absurd e (by simp [lookS])
    | cons _ _ => rfl
  · cases e
/-- the operations after a turn -/
noncomputable def ops1 (tg a b : Bool) (way k : Nat) (old : Bool) (P : Params) (τ : Nat → Tok) (e : Array DictEntry) : Array DictEntry := match tg, way with
  | true, 0 => e.push (ent P (opS (hasB a b) b 0 k) (τ 75) (.str (nm k) (τ 63)))
  | true, 1 => match old with
    | false => e.push (ent P (opS (hasB a b) b 1 k) (τ 76) (.str (nm k) (τ 63)))
    | true => setE e (opS (hasB a b) b 1 k) (.str (nm k) (τ 63))
  | _, _ => e
theorem n1_ops {tg later a b old : Bool} {way k : Nat} {P : Params} {σ τ : Nat → Nat} {x : Vals} : (n1 tg later a b way k old P σ τ x).e 2 = ops1 tg a b way k old P τ (x.e 2) := by
  cases tg <;> (match way with | 0 => rfl | 1 => rfl | _ + 2 => rfl)
theorem ops1_ok {tg a b : Bool} {way : Nat} {P : Params} {τ : Nat → Tok} {qs : Rows} {x : Vals} {z : Nat} (h : I1 P tg qs x) (hl : qs.length ≤ 3) (hw : way = 0 ∨ way = 1 ∨ way = 2) :
    let e := ops1 tg a b way qs.length (oldB tg a b way qs.length x) P τ (x.e 2)
    AllStr e ∧ DistS e ∧ e.size ≤ qs.length + 1 ∧ StrVals P e ∧ (∀ j, qs.length + 1 ≤ j → j ≤ 3 → ∀ h g, lookS e (opS h g 0 j) = none) ∧
      (tg = true → (∀ y, (lookS (x.e 2) y).isSome = true → (lookS e y).isSome = true) ∧ (way ≠ 2 → (lookS e (opS (hasB a b) b way qs.length)).isSome = true)) ∧ (tg = false → e = #[]) := by
  intro e
  have pz := h.pz
  cases tg with
  | false =>
    have e' : e = x.e 2 := rfl
    rw [e', h.p3 rfl]
    refine ⟨allS_nil, dist_nil, by simp, fun e he => by simp at he, fun _ _ _ _ _ => by simp [lookS], fun q => (nomatch q), fun _ => rfl⟩
  | true =>
    have some_push : ∀ (k : Str) (t : Tok) (v : Value) (y : Str), (lookS (x.e 2) y).isSome = true → (lookS ((x.e 2).push (ent P k t v)) y).isSome = true := fun k t v y q => by
      obtain ⟨w, e⟩ := Option.isSome_iff_exists.mp q
      rw [look_push, e]; rfl
    have new : ∀ (w : Nat) (t : Tok), lookS (x.e 2) (opS (hasB a b) b w qs.length) = none → (∀ j, qs.length + 1 ≤ j → j ≤ 3 → ∀ h g, (opS (hasB a b) b w qs.length == opS h g 0 j) = false) →
        e = (x.e 2).push (ent P (opS (hasB a b) b w qs.length) t (.str (nm qs.length) (τ 63))) → w = way →
        AllStr e ∧ DistS e ∧ e.size ≤ qs.length + 1 ∧ StrVals P e ∧ (∀ j, qs.length + 1 ≤ j → j ≤ 3 → ∀ h g, lookS e (opS h g 0 j) = none) ∧
      (true = true → (∀ y, (lookS (x.e 2) y).isSome = true → (lookS e y).isSome = true) ∧ (way ≠ 2 → (lookS e (opS (hasB a b) b way qs.length)).isSome = true)) ∧ (true = false → e = #[]) := fun w t q1 q2 q3 q4 => by
      subst q4
      rw [q3]
      refine ⟨allS_push h.p0 _ _ _ _, dist_push h.pd q1, by simp; exact pz, strVals_push h.pv _ _ _ _, fun j h1 h2 hh g => ?_, fun _ => ⟨fun y => some_push _ _ _ y, fun _ => isSome_of (look_push_same q1)⟩, fun q => (nomatch q)⟩
      rw [look_push_ne (q2 j h1 h2 hh g)]; exact h.p1 j (by omega) h2 hh g
    rcases hw with rfl | rfl | rfl
    · refine new 0 (τ 75) (h.p1 _ (Nat.le_refl _) (by omega) _ _) (fun j h1 h2 hh g => ne_of_hd ?_) rfl rfl
      rw [hd_op0, hd_op0]; intro q; injection q with q; omega
    · cases q : lookS (x.e 2) (opS (hasB a b) b 1 qs.length) with
      | none =>
        have ho : oldB true a b 1 qs.length x = false := by show (lookS (x.e 2) (opS (hasB a b) b 1 qs.length)).isSome = false; rw [q]; rfl
        refine new 1 (τ 76) q (fun j h1 h2 hh g => ne_of_hd ?_) (by show ops1 true a b 1 qs.length (oldB true a b 1 qs.length x) P τ (x.e 2) = _; rw [ho]; rfl) rfl
        rw [hd_op0, hd_op1]; intro q; injection q with q; omega
      | some v =>
        have ho : oldB true a b 1 qs.length x = true := by show (lookS (x.e 2) (opS (hasB a b) b 1 qs.length)).isSome = true; rw [q]; rfl
        have e' : e = setE (x.e 2) (opS (hasB a b) b 1 qs.length) (.str (nm qs.length) (τ 63)) := by show ops1 true a b 1 qs.length (oldB true a b 1 qs.length x) P τ (x.e 2) = _; rw [ho]; rfl
        rw [e']
        refine ⟨allS_setE h.p0 _ _, dist_setE h.pd _ _, by rw [size_setE]; omega, strVals_set h.pv _ _ _, fun j h1 h2 hh g => ?_, fun _ => ⟨fun y => look_setE_some h.p0, fun _ => isSome_of (look_setE_same h.p0 (isSome_of q))⟩, fun q => (nomatch q)⟩
        rw [look_setE_ne h.p0 (ne_of_hd (by rw [hd_op0, hd_op1]; intro q; injection q with q; omega))]
        exact h.p1 j (by omega) h2 hh g
    · refine ⟨h.p0, h.pd, Nat.le_succ_of_le pz, h.pv, fun j h1 h2 => h.p1 j (by omega) h2, fun _ => ⟨fun y q => q, fun q => absurd rfl q⟩, fun q => (nomatch q)⟩
theorem I1.next {tg later a b : Bool} {way : Nat} {P : Params} {σ τ : Nat → Nat} {qs : Rows} {x : Vals} {z : Nat} (h : I1 P tg qs x) (hl : qs.length ≤ 3) (hw : way = 0 ∨ way = 1 ∨ way = 2) (hz : σ 82 = z + 64) :
    I1 P tg ((rw1 a b way qs.length τ x, z) :: qs) (n1 tg later a b way qs.length (oldB tg a b way qs.length x) P σ τ x) := by
  obtain ⟨q0, qd, qz, qv, q1, q2, q3⟩ := ops1_ok (a := a) (b := b) (P := P) (τ := τ) (z := z) h hl hw
  have len : ((rw1 a b way qs.length τ x, z) :: qs).length = qs.length + 1 := rfl
  have ne : ∀ j, qs.length + 1 ≤ j → (nm qs.length == nm j) = false := fun j h => nm_ne (by omega)
  refine ⟨⟨rfl, hasB_or a b, hw, h.rows⟩, ?_, allS_push h.e0 _ _ _ _, fun j hj => ?_, ?_, allS_push h.c0 _ _ _ _, fun j hj hj' => ?_, ?_, ?_, ?_, ?_, ?_, ?_, ?_, ?_, ?_, ?_, ?_, ?_, ?_⟩
  · show x.i 0 + 1 + 1 + 1 = _; rw [h.spot, len]; push_cast; omega
  · show lookS ((x.e 0).push _) (nm j) = none
    rw [look_push_ne (ne j hj)]; exact h.e1 j (by rw [len] at hj; omega)
  · show ((x.e 0).push _).size ≤ _; have := h.e2; simp; omega
  · show lookS ((x.e 1).push _) (nm j) = none
    rw [look_push_ne (ne j hj)]; exact h.c1 j (by rw [len] at hj; omega) hj'
  · show ((x.e 1).push _).size ≤ _; have := h.c2; simp; omega
  · show lookS ((x.e 1).push _) inhS = none
    rw [look_push_ne (by rw [Bool.beq_comm]; exact inh_ne _)]; exact h.c3
  · intro q hq
    show ∃ t, lookS ((x.e 1).push _) _ = _
    rcases List.mem_cons.mp hq with rfl | hq
    · exact ⟨_, look_push_same (h.c1 _ (Nat.le_refl _) (by omega))⟩
    · have := rows_k h.rows q hq
      rw [look_push_ne (nm_ne (by omega))]; exact h.c4 q hq
  · show ((x.a 1).push _).size ≤ _; have := h.o0; simp; omega
  · show (x.a 2).push (rf (σ 82)) = _
    rw [h.r0, hz]; simp
  · rw [n1_ops]; exact q0
  · rw [n1_ops]; exact qd
  · rw [n1_ops]; exact qz
  · rw [n1_ops]; exact qv
  · rw [n1_ops]; exact fun j hj => q1 j hj
  · intro ht q hq hw2
    rw [n1_ops]
    rcases List.mem_cons.mp hq with rfl | hq
    · exact (q2 ht).2 hw2
    · exact (q2 ht).1 _ (h.p2 ht q hq hw2)
  · intro ht; rw [n1_ops]; exact q3 ht
  · intro q; cases q
end Mine
end
section
set_option maxRecDepth 100000
set_option maxHeartbeats 4000000
namespace Mine
open PySem PySem.W PySem.W.X
theorem kE1_step {F : Fix} {K : Addr → Option Obj} {dr : Drawn} {os : OsState} {rest : List (Nat × Obj)} {s : Shared} {z n k a f : Nat} {κ : TK} (hR : (kE1 k f).Run F.kt) (H : F.Ok) (HK : KOk F K) (hI : κ.Inv) (hn : n ≤ 30)
    (D : Hp K dr os s z ((a, rngO (Int.ofNat k) 0) :: rest)) (hk : ∀ s', Hp K dr os s' (z + 2) ((a, rngO (Int.ofNat k) 0) :: rest) → Post F.M κ (.ok .next) s') :
    GoodC F.M n none κ (loopC F.T 9 (rf a) (f + 417)) s := by
  refine Seg.step_c (S := kE1 k f) [a] v0 rfl hR H HK (rest := rest) D rfl rfl rfl (Nat.le_of_ble_eq_true rfl) (by kernel_rfl) (fun τ K' O => uses_nil rfl) (fun _ => rfl) hI hn (fun s' τ E => ?_)
  exact hk s' E
/-- all turns of the first loop -/
theorem loop1 {F : Fix} {K : Addr → Option Obj} {dr : Drawn} {os : OsState} {rest : List (Nat × Obj)} {κ : TK} {A : Nat → Nat} {tg : Bool} {X : Vals} (hA : AllRuns F.kt) (hR : R1 F.kt) (hE : ∀ k f, (kE1 k f).Run F.kt) (H : F.Ok) (HK : KOk F K) (hI : κ.Inv) (hc : CellsOk (X.a 0)) :
    ∀ (l n : Nat) (qs : Rows) (x : Vals) (s : Shared) (z : Nat), n ≤ 30 → qs.length + l ≤ 4 → I1 F.P tg qs x →
      Hp K dr os s z ((rg A 0 18).zip (rngO (Int.ofNat qs.length) (Int.ofNat l) :: j1 tg (lat qs) X F.P A x) ++ (rowsL F.P X A qs ++ rest)) →
      (∀ s' z' qs' x', qs'.length = qs.length + l → I1 F.P tg qs' x' → Hp K dr os s' z' ((rg A 0 18).zip (rngO (Int.ofNat qs'.length) 0 :: j1 tg (lat qs') X F.P A x') ++ (rowsL F.P X A qs' ++ rest)) → Post F.M κ (.ok .next) s') →
      GoodC F.M n none κ (loopC F.T 9 (rf (A 0)) (A 1 + 417)) s := by
  intro l
  induction l with
  | zero =>
    intro n qs x s z hn hl h D hk
    exact kE1_step (hE _ _) H HK hI hn D fun s' E => hk s' _ qs x rfl h E
  | succ l ih =>
    intro n qs x s z hn hl h D hk
    have hs : qs.length = 0 ∨ qs.length = 1 ∨ qs.length = 2 ∨ qs.length = 3 := by omega
    obtain ⟨a, da⟩ : ∃ a, SvFact (X.a 0) (x.i 0) 2 (bi a) := by
      rw [h.spot]
      rcases hs with e | e | e | e <;> rw [e]
      · exact drawB hc (r := 0) (by decide)
      · exact drawB hc (r := 0) (by decide)
      · exact drawB hc (r := 0) (by decide)
      · exact drawB hc (r := 1) (by decide)
    obtain ⟨b, db⟩ : ∃ b, SvFact (X.a 0) (x.i 0 + 1) 2 (bi b) := by
      rw [h.spot]
      rcases hs with e | e | e | e <;> rw [e]
      · exact drawB hc (r := 1) (by decide)
      · exact drawB hc (r := 0) (by decide)
      · exact drawB hc (r := 1) (by decide)
      · exact drawB hc (r := 0) (by decide)
    obtain ⟨way, dw, hw⟩ : ∃ way : Nat, SvFact (X.a 0) (x.i 0 + 1 + 1) 3 (Int.ofNat way) ∧ (way : Int) < 3 := by
      rw [h.spot]
      rcases hs with e | e | e | e <;> rw [e]
      · exact drawN hc (r := 1) (by decide)
      · exact drawN hc (r := 1) (by decide)
      · exact drawN hc (r := 1) (by decide)
      · exact drawN hc (r := 1) (by decide)
    have hw : way = 0 ∨ way = 1 ∨ way = 2 := by omega
    have f := h.facts (a := a) (b := b) (way := way) (l := l) (X := X) (by omega) hw da db dw
    refine turn1 hA hR H HK (l := l) (x := x) (rest := rowsL F.P X A qs ++ rest) hI hn (old_ok h) f D (fun s' τ E => ?_)
    let q : Row × Nat := (rw1 a b way qs.length τ x, z)
    let x' : Vals := n1 tg (lat qs) a b way qs.length (oldB tg a b way qs.length x) F.P (adr (rg A 0 18) z) τ x
    refine ih 30 (q :: qs) x' s' (z + 65) (Nat.le_refl _) (by simp; omega) (h.next (by omega) hw rfl) ?_ (fun s' z' qs' x' e h' E' => hk s' z' qs' x' (by rw [e]; simp; omega) h' E')
    have e : rowsL F.P X A (q :: qs) ++ rest = rowL F.P X A q ++ (rowsL F.P X A qs ++ rest) := by
      show (rowL F.P X A q ++ rowsL F.P X A qs) ++ rest = _
      rw [List.append_assoc]
    rw [e]
    exact E
end Mine
end
section
set_option maxRecDepth 100000
set_option maxHeartbeats 4000000
namespace Mine
open PySem PySem.W PySem.W.X
noncomputable def ZA (tg : Bool) (b t : Nat → Nat) : Vals :=
  { v0 with
    t := fun j => (match tg with | true => [t 474, t 469, t 493, 0, 0] | false => [t 476, t 469, t 495, t 471, t 472]).getD j 0
    r := fun j => (match tg with | true => [b 31, b 32, b 33] | false => [b 29, b 30, b 31, b 32, b 33]).getD j 0 }
section
variable {F : Fix} {K : Addr → Option Obj} {dr : Drawn} {os : OsState} {rest : List (Nat × Obj)} {s : Shared} {z n : Nat} {κ : TK}
/-- the frame behind the first loop -/
noncomputable def ft1 (x : Vals) : Nat → Tok := fun j => x.t (1 + j)
noncomputable def fv1 (tg : Bool) (X : Vals) (A : Nat → Nat) (x : Vals) : Nat → Value := fun j => ([X.v 0, rf (A 2), X.v 1, rf (A 4), x.v 2, X.v 3, .bool tg, rf (A 5), rf (A 7), rf (A 17)] ++ rg x.v 4 7 : List Value).getD j .none
noncomputable def dM (tg : Bool) : Nat := match tg with | true => 38 | false => 12
noncomputable def mdi (tg : Bool) (z : Nat) : Nat := match tg with | true => z + 27 | false => z + 2
noncomputable def mdd (tg : Bool) (z : Nat) : Nat := match tg with | true => z + 26 | false => z + 1
noncomputable def mdo (tg : Bool) (z : Nat) : Nat := match tg with | true => z + 35 | false => z + 10
noncomputable def mdc (tg : Bool) (z0 z : Nat) : Nat := match tg with | true => z + 37 | false => aB z0 33
noncomputable def dsc (tg : Bool) (z0 : Nat) : Nat := match tg with | true => aB z0 37 | false => aB z0 32
/-- the frame behind due and table -/
noncomputable def ft2 (tg : Bool) (x : Vals) (τ τ' : Nat → Tok) : Nat → Tok := fun j => match j with | 17 => τ (match tg with | true => 138 | false => 115) | 18 => τ' 1 | 19 => τ' 2 | j => ft1 x j
noncomputable def fv2 (tg : Bool) (X : Vals) (A : Nat → Nat) (x : Vals) (z : Nat) : Nat → Value := fun j => match j with | 17 => rf (mdi tg z) | 18 => rf (z + dM tg + 1) | 19 => rf (z + dM tg) | j => fv1 tg X A x j
/-- what the second loop touches: iterator, rows, frame, due, regions, p, table -/
noncomputable def lB (P : Params) (X : Vals) (A : Nat → Nat) (x : Vals) (it due tab : Nat) (fr : Obj) : List (Nat × Obj) :=
  [(it, itO (A 17 + 417) 0), (A 17, lO (x.a 2) (x.n 102)), (A 1, fr), (due, lO #[] 0), (A 4, lO #[rf (A 9), .ref (X.r 0)] 2), (A 9, inst 141 (A 10 + 417)), (A 10, pD P X (A 12) (A 11) (A 15)), (tab, dO (x.e 2) (x.e 2).size)]
/-- the others -/
noncomputable def lX (P : Params) (tg : Bool) (X M : Vals) (A : Nat → Nat) (x : Vals) (mi md mo : Nat) : List (Nat × Obj) :=
  [(A 2, sandO P (X.t 18) (X.t 19) (x.t 20) (A 3 + 417) (x.i 0)), (A 3, lO (X.a 0) (X.n 100)), (A 5, inst 223 (A 6 + 417)), (A 6, tyD P X 21 11 61 (X.v 33)), (A 7, inst 223 (A 8 + 417)), (A 8, tyD P X 46 34 71 (rf (A 16))),
   (A 12, inst 141 (A 13 + 417)), (A 13, rootD P X (x.i 3) (x.t 94) (A 14)), (A 14, dO (x.e 1) (x.n 1)), (mi, inst 223 (md + 417)), (md, mdD P tg M (rf mo)), (mo, dO (x.e 2) (x.e 2).size)]
noncomputable def lQ (P : Params) (z0 : Nat) (t : Nat → Tok) : List (Nat × Obj) := [(aA z0 88, inst 141 (aA z0 87 + 417)), (aA z0 87, qD P (QA (aA z0) t) (aA z0 3) (aA z0 90) (aA z0 91)), (aA z0 90, dO #[] 0), (aA z0 91, lO #[] 0)]
theorem usesM {σ τ : Nat → Nat} {us : List Use} {m₀ i₀ : Nat} {tg : Bool} {X Z y : Vals} (O : VOk (F.vc σ τ 60 us K dr os m₀ i₀)) (p0 : AllStr (y.e 2)) (pd : DistS (y.e 2)) (pz : (y.e 2).size ≤ 8) :
    ∀ u ∈ (kM tg X Z).us F.w.params (F.kt F.w.params) σ τ y, UseOk (F.vc σ τ 60 us K dr os m₀ i₀) u := by
  cases tg with
  | true => exact all_cons (dcopy_use O _ _ (by decide) p0 pd pz) <| all_cons (listNew_use O _ _ _) <| all_cons (listInit_use O _ _ _ _ (T := "list") (by decide) rfl rfl (by decide) (Nat.le_of_ble_eq_true (by kernel_rfl))) all_nil
  | false => exact all_cons (dcopy_use O _ _ (by decide) p0 pd pz) all_nil
theorem phB {tg : Bool} {z0 f sd c k : Nat} {x y : Vals} {t : Nat → Nat} {R : List (Nat × Obj)} (hA : AllRuns F.kt) (hM : ∀ X Z, (kM tg X Z).Run F.kt) (hT : ∀ X, (kT2 X).Run F.kt) (H : F.Ok) (HK : KOk F K) (hn : n ≤ 20)
    (p0 : AllStr (x.e 2)) (pd : DistS (x.e 2)) (pz : (x.e 2).size ≤ 8)
    (D : Hp K dr os s z ((rg (AL tg z0 f sd c) 0 18).zip (rngO (Int.ofNat k) 0 :: j1 tg true (XA tg (aA z0) (aB z0) t y) F.P (AL tg z0 f sd c) x) ++ (((restX tg).map (adr [f, sd, c] z0)).zip (restA F.P tg (aA z0) t) ++ R)))
    (hk : ∀ s' J τ τ', Hp K dr os s' (z + dM tg + 7) (lB F.P (XA tg (aA z0) (aB z0) t y) (AL tg z0 f sd c) x (z + dM tg + 6) (z + dM tg) (z + dM tg + 1) (frN F.P (List.range 20) (ft2 tg x τ τ') (fv2 tg (XA tg (aA z0) (aB z0) t y) (AL tg z0 f sd c) x z)) ++
        (lX F.P tg (XA tg (aA z0) (aB z0) t y) (MB tg (ZA tg (aB z0) t) τ (AL tg z0 f sd c 7) (dsc tg z0) (mdc tg z0 z)) (AL tg z0 f sd c) x (mdi tg z) (mdd tg z) (mdo tg z) ++ (lQ F.P z0 t ++ (J ++ R)))) →
      Good F.M 20 none κ (loopT F.T 12 (rf (z + dM tg + 6)) (f + 417)) s') :
    Good F.M n none κ (lawT F.T 10 (f + 417)) s := by
  let A := AL tg z0 f sd c
  let X := XA tg (aA z0) (aB z0) t y
  let Z := ZA tg (aB z0) t
  let ym : Vals := { v0 with t := ft1 x, v := fv1 tg X A x, e := fun _ => x.e 2, n := fun _ => x.n 2 }
  let yt (τ : Nat → Tok) : Vals := { v0 with t := fun j => match j with | 17 => τ (match tg with | true => 138 | false => 115) | j => ft1 x j, v := fun j => match j with | 17 => rf (mdi tg z) | j => fv1 tg X A x j, e := fun _ => x.e 2, n := fun j => match j with | 2 => x.n 2 | _ => x.n 102, a := fun _ => x.a 2 }
  have D := D.assoc
  cases tg with
  | true =>
    have D2 := Hp.pick2 24 _ D [1, 7, 8, 16, 22, 23] [0, 2, 3, 4, 5, 6, 9, 10, 11, 12, 13, 14, 15, 17, 18, 19, 20, 21] (by kernel_rfl) (by decide +kernel)
    let R1 : List (Nat × Obj) := pk ((rg (AL true z0 f sd c) 0 18).zip (rngO (Int.ofNat k) 0 :: j1 true true X F.P (AL true z0 f sd c) x) ++ ((restX true).map (adr [f, sd, c] z0)).zip (restA F.P true (aA z0) t)) [0, 2, 3, 4, 5, 6, 9, 10, 11, 12, 13, 14, 15, 17, 18, 19, 20, 21]
    have D3 : Hp K dr os s z ([f, A 7, A 8, A 16, aB z0 37, aB z0 38].zip (insM true X Z F.P (adr [f, A 7, A 8, A 16, aB z0 37, aB z0 38] z) ym) ++ (R1 ++ R)) := Eq.mp (by kernel_rfl) D2
    refine Seg.step_t (S := kM true X Z) [f, A 7, A 8, A 16, aB z0 37, aB z0 38] ym rfl (hM X Z) H HK D3 rfl rfl rfl (Nat.le_of_ble_eq_true rfl) (by kernel_rfl) (fun τ K' O => uses_all (usesM (tg := true) (X := X) (Z := Z) (y := ym) O p0 pd pz)) (fun _ => rfl) hn (fun s' τ E => ?_)
    have E1 := Hp.pick2 28 _ E.assoc [0, 1, 2, 3, 23] [4, 5, 6, 7, 8, 9, 10, 11, 12, 13, 14, 15, 16, 17, 18, 19, 20, 21, 22, 24, 25, 26, 27] (by kernel_rfl) (by decide +kernel)
    let R2 : List (Nat × Obj) := pk (((kM true X Z).xs.map (adr [f, A 7, A 8, A 16, aB z0 37, aB z0 38] z)).zip ((kM true X Z).outs F.w.params (adr [f, A 7, A 8, A 16, aB z0 37, aB z0 38] z) τ ym) ++ R1) [4, 5, 6, 7, 8, 9, 10, 11, 12, 13, 14, 15, 16, 17, 18, 19, 20, 21, 22, 24, 25, 26, 27]
    have E2 : Hp K dr os s' (z + 38) ([f, A 7, A 8, A 16, A 17].zip (insT X F.P (adr [f, A 7, A 8, A 16, A 17] (z + 38)) (yt τ)) ++ (R2 ++ R)) := Eq.mp (by kernel_rfl) E1
    refine Seg.step_t (S := kT2 X) [f, A 7, A 8, A 16, A 17] (yt τ) rfl (hT X) H HK E2 rfl rfl rfl (Nat.le_of_ble_eq_true rfl) (by kernel_rfl) (fun τ K' O => uses_all (all_cons (dcopy_use O _ _ (by decide) p0 pd pz) all_nil)) (fun _ => rfl) (Nat.le_refl 20) (fun s2 τ' G => ?_)
    have G2 := Hp.pick2 31 _ G.assoc [7, 4, 0, 5, 17, 20, 21, 6, 15, 16, 18, 19, 1, 2, 23, 24, 25, 11, 10, 12, 27, 28, 29, 30] [3, 8, 9, 13, 14, 22, 26] (by kernel_rfl) (by decide +kernel)
    let J : List (Nat × Obj) := pk (((kT2 X).xs.map (adr [f, A 7, A 8, A 16, A 17] (z + 38))).zip ((kT2 X).outs F.w.params (adr [f, A 7, A 8, A 16, A 17] (z + 38)) τ' (yt τ)) ++ R2) [3, 8, 9, 13, 14, 22, 26]
    refine hk s2 J τ τ' ?_
    exact Eq.mp (by kernel_rfl) G2
  | false =>
    have D2 := Hp.pick2 22 _ D [1, 7, 8, 16] [0, 2, 3, 4, 5, 6, 9, 10, 11, 12, 13, 14, 15, 17, 18, 19, 20, 21] (by kernel_rfl) (by decide +kernel)
    let R1 : List (Nat × Obj) := pk ((rg (AL false z0 f sd c) 0 18).zip (rngO (Int.ofNat k) 0 :: j1 false true X F.P (AL false z0 f sd c) x) ++ ((restX false).map (adr [f, sd, c] z0)).zip (restA F.P false (aA z0) t)) [0, 2, 3, 4, 5, 6, 9, 10, 11, 12, 13, 14, 15, 17, 18, 19, 20, 21]
    have D3 : Hp K dr os s z ([f, A 7, A 8, A 16].zip (insM false X Z F.P (adr [f, A 7, A 8, A 16] z) ym) ++ (R1 ++ R)) := Eq.mp (by kernel_rfl) D2
    refine Seg.step_t (S := kM false X Z) [f, A 7, A 8, A 16] ym rfl (hM X Z) H HK D3 rfl rfl rfl (Nat.le_of_ble_eq_true rfl) (by kernel_rfl) (fun τ K' O => uses_all (usesM (tg := false) (X := X) (Z := Z) (y := ym) O p0 pd pz)) (fun _ => rfl) hn (fun s' τ E => ?_)
    have E1 := Hp.pick2 25 _ E.assoc [0, 1, 2, 3, 20] [4, 5, 6, 7, 8, 9, 10, 11, 12, 13, 14, 15, 16, 17, 18, 19, 21, 22, 23, 24] (by kernel_rfl) (by decide +kernel)
    let R2 : List (Nat × Obj) := pk (((kM false X Z).xs.map (adr [f, A 7, A 8, A 16] z)).zip ((kM false X Z).outs F.w.params (adr [f, A 7, A 8, A 16] z) τ ym) ++ R1) [4, 5, 6, 7, 8, 9, 10, 11, 12, 13, 14, 15, 16, 17, 18, 19, 21, 22, 23, 24]
    have E2 : Hp K dr os s' (z + 12) ([f, A 7, A 8, A 16, A 17].zip (insT X F.P (adr [f, A 7, A 8, A 16, A 17] (z + 12)) (yt τ)) ++ (R2 ++ R)) := Eq.mp (by kernel_rfl) E1
    refine Seg.step_t (S := kT2 X) [f, A 7, A 8, A 16, A 17] (yt τ) rfl (hT X) H HK E2 rfl rfl rfl (Nat.le_of_ble_eq_true rfl) (by kernel_rfl) (fun τ K' O => uses_all (all_cons (dcopy_use O _ _ (by decide) p0 pd pz) all_nil)) (fun _ => rfl) (Nat.le_refl 20) (fun s2 τ' G => ?_)
    have G2 := Hp.pick2 28 _ G.assoc [7, 4, 0, 5, 14, 17, 18, 6, 12, 13, 15, 16, 1, 2, 20, 21, 22, 9, 8, 10, 24, 25, 26, 27] [3, 11, 19, 23] (by kernel_rfl) (by decide +kernel)
    let J : List (Nat × Obj) := pk (((kT2 X).xs.map (adr [f, A 7, A 8, A 16, A 17] (z + 12))).zip ((kT2 X).outs F.w.params (adr [f, A 7, A 8, A 16, A 17] (z + 12)) τ' (yt τ)) ++ R2) [3, 11, 19, 23]
    refine hk s2 J τ τ' ?_
    exact Eq.mp (by kernel_rfl) G2
end
end Mine
end
section
set_option maxRecDepth 100000
set_option maxHeartbeats 4000000
namespace Mine
open PySem PySem.W PySem.W.X
/-! ### lists of objects put in another order -/
section
variable {K : Addr → Option Obj} {dr : Drawn} {os : OsState} {s : Shared} {z : Nat}
theorem Hp.swap {a b c d : List (Nat × Obj)} (h : Hp K dr os s z (a ++ (b ++ (c ++ d)))) : Hp K dr os s z ((a ++ c) ++ (b ++ d)) := by
  refine h.perm ?_
  rw [List.append_assoc]
  refine List.Perm.append_left a ?_
  rw [← List.append_assoc, ← List.append_assoc]
  exact (List.perm_append_comm).append_right d
theorem rowsL_split (P : Params) (X : Vals) (A : Nat → Nat) (pre post : Rows) (q : Row × Nat) : (rowsL P X A (pre ++ q :: post)).Perm (rowL P X A q ++ rowsL P X A (pre ++ post)) := by
  unfold rowsL
  simp only [List.flatMap_append, List.flatMap_cons]
  rw [← List.append_assoc, ← List.append_assoc]
  exact (List.perm_append_comm).append_right _
theorem Hp.rowOut {P : Params} {X : Vals} {A : Nat → Nat} {pre post : Rows} {q : Row × Nat} {a R : List (Nat × Obj)} (h : Hp K dr os s z (a ++ (rowsL P X A (pre ++ q :: post) ++ R))) : Hp K dr os s z ((a ++ rowL P X A q) ++ (rowsL P X A (pre ++ post) ++ R)) := by
  refine h.perm ?_
  rw [List.append_assoc]
  refine List.Perm.append_left a ?_
  rw [← List.append_assoc]
  exact (rowsL_split P X A pre post q).append_right R
theorem Hp.rowIn {P : Params} {X : Vals} {A : Nat → Nat} {pre post : Rows} {q : Row × Nat} {a b R : List (Nat × Obj)} (h : Hp K dr os s z ((a ++ rowL P X A q) ++ (b ++ (rowsL P X A (pre ++ post) ++ R)))) : Hp K dr os s z (a ++ (rowsL P X A (pre ++ q :: post) ++ (b ++ R))) := by
  refine h.perm ?_
  rw [List.append_assoc]
  refine List.Perm.append_left a ?_
  have e1 : (b ++ (rowsL P X A (pre ++ post) ++ R)).Perm (rowsL P X A (pre ++ post) ++ (b ++ R)) := by
    rw [← List.append_assoc, ← List.append_assoc]
    exact List.perm_append_comm.append_right R
  have e2 : ((rowL P X A q ++ rowsL P X A (pre ++ post)) ++ (b ++ R)).Perm (rowsL P X A (pre ++ q :: post) ++ (b ++ R)) := ((rowsL_split P X A pre post q).symm).append_right _
  rw [List.append_assoc] at e2
  exact (List.Perm.append_left _ e1).trans e2
end
/-! ### the rows as a list that is walked -/
theorem rg_map {α : Type} (f : Nat → α) : ∀ (n a : Nat), rg f a n = (List.range n).map fun j => f (a + j)
  | 0, _ => rfl
  | n + 1, a => by
    rw [rg, rg_map f n (a + 1), List.range_succ_eq_map]
    simp only [List.map_cons, List.map_map, Nat.add_zero]
    congr 1
    apply List.map_congr_left
    intro j _
    simp only [Function.comp]
    congr 1
    omega
noncomputable def rowAt (l : Rows) (j : Nat) : Nat := (l.getD j (⟨true, true, 0, 0, fun _ => 0, 0⟩, 0)).2 + 64 + 417
theorem refs_rows (l : Rows) : (l.map fun q => rf (q.2 + 64)).toArray = refsOf (rowAt l) l.length := by
  unfold refsOf
  rw [rg_map]
  congr 1
  apply List.ext_getElem
  · simp
  · intro j h1 h2
    simp only [List.length_map] at h1
    simp [rowAt, rf, h1]
theorem it_rows {l : Rows} {m : Nat} {q : Row × Nat} (h : l[m]? = some q) (hl : l.length ≤ 4) : ItFact (l.map fun q => rf (q.2 + 64)).toArray m (q.2 + 64 + 417) := by
  obtain ⟨hm, e⟩ := List.getElem?_eq_some_iff.mp h
  refine ⟨rowAt l, l.length, refs_rows l, hm, hl, ?_⟩
  unfold rowAt
  rw [List.getD_eq_getElem?_getD, h]; rfl
/-! ### what is due -/
noncomputable def doOf (tg : Bool) (r : Row) : Do := match tg, r.gives, r.way with
  | false, _, _ => .plain
  | true, true, 0 => .tag
  | true, true, _ => .out
  | true, false, _ => .tag
theorem doOf_tg (tg : Bool) (r : Row) : (doOf tg r).tg = tg := by
  unfold doOf; split <;> rfl
structure Due where
  d : Do
  r : Row
  zr : Nat
  zd : Nat
  t : Nat → Tok
noncomputable def Due.a (u : Due) : Nat := match u.d with | .tag => u.zd + 6 | .plain => u.zd + 7 | .out => 0
noncomputable def dueL (Y : Vals) (u : Due) : List (Nat × Obj) := ((x2 u.d).map fun j => u.zd + (j - 13)).zip (o2 u.d u.r (fun j => u.zr + j) Y (fun j => u.zd + (j - 13)) u.t)
noncomputable def duesL (Y : Vals) (ds : List Due) : List (Nat × Obj) := ds.flatMap (dueL Y)
/-- the makers' keys are told anew -/
noncomputable def tabF (e : Array DictEntry) : List Due → Array DictEntry
  | [] => e
  | u :: ds => match u.d, u.r.gives with | .tag, true => setE (tabF e ds) u.r.op (.str (.mk #[]) (u.t 17)) | _, _ => tabF e ds
theorem tabF_ok {e : Array DictEntry} (h : AllStr e) : ∀ ds : List Due, AllStr (tabF e ds) ∧ (tabF e ds).size = e.size ∧ ∀ y, (lookS e y).isSome = true → (lookS (tabF e ds) y).isSome = true
  | [] => ⟨h, rfl, fun _ q => q⟩
  | u :: ds => by
    obtain ⟨h1, h2, h3⟩ := tabF_ok h ds
    unfold tabF
    split
    · exact ⟨allS_setE h1 _ _, by rw [size_setE]; exact h2, fun y q => look_setE_some h1 (h3 y q)⟩
    · exact ⟨h1, h2, h3⟩
end Mine
end
section
set_option maxRecDepth 100000
set_option maxHeartbeats 4000000
namespace Mine
open PySem PySem.W PySem.W.X
/-- the second loop's addresses -/
noncomputable def B2 (A : Nat → Nat) (it due tab : Nat) (j : Nat) : Nat := ([it, A 17, 0, A 1, 0, 0, 0, 0, due, A 4, A 9, A 10, tab] : List Nat).getD j 0
noncomputable def A2 (A : Nat → Nat) (it due tab zr : Nat) (j : Nat) : Nat := ([it, A 17, zr + 64, A 1, zr + 34, zr + 33, zr + 9, zr + 8, due, A 4, A 9, A 10, tab] : List Nat).getD j 0
noncomputable def q2 (A : Nat → Nat) (j : Nat) : Nat := ([A 12, A 11, A 15] : List Nat).getD j 0
noncomputable def fx2 (P : Params) (tg told : Bool) (Y X : Vals) (A : Nat → Nat) (it due tab m : Nat) (x : Vals) : List (Nat × Obj) :=
  [(it, itO (A 17 + 417) (Int.ofNat m)), (A 17, lO (X.a 0) (X.n 100)), (A 1, fr2 P tg told X (B2 A it due tab) x), (due, lO (x.a 1) (x.n 101)), (A 4, lO #[rf (A 9), .ref (Y.r 0)] 2), (A 9, inst 141 (A 10 + 417)), (A 10, pD P Y (A 12) (A 11) (A 15)), (tab, dO (x.e 0) (x.n 0))]
section
variable {F : Fix} {K : Addr → Option Obj} {dr : Drawn} {os : OsState} {R : List (Nat × Obj)} {s : Shared} {z n : Nat} {κ : TK}
theorem step2 (hA : AllRuns F.kt) (hR : R2 F.kt) (H : F.Ok) (HK : KOk F K) {A : Nat → Nat} {it due tab m zr : Nat} {tg told : Bool} {d : Do} {r : Row} {Y X x : Vals} {pre post : Rows} (hI : κ.Inv) (hn : n ≤ 30) (hd : d.tg = tg) (hr : r.Ok)
    (f : F2 d r m (A2 A it due tab zr) X x)
    (D : Hp K dr os s z (fx2 F.P tg told Y X A it due tab m x ++ (rowsL F.P Y A (pre ++ (r, zr) :: post) ++ R)))
    (hk : ∀ s' τ, Hp K dr os s' (z + d2 d) (fx2 F.P tg (T2 d told) Y X A it due tab (m + 1) (n2 d told r F.P (adr (rg (A2 A it due tab zr) 0 13) z) τ x) ++ (rowsL F.P Y A (pre ++ (r, zr) :: post) ++
      (((x2 d).map (adr (rg (A2 A it due tab zr) 0 13) z)).zip (o2 d r (fun j => zr + j) Y (adr (rg (A2 A it due tab zr) 0 13) z) τ) ++ R))) → GoodC F.M 30 none κ (loopC F.T 12 (rf it) (A 1 + 417)) s') :
    GoodC F.M n none κ (loopC F.T 12 (rf it) (A 1 + 417)) s := by
  subst hd
  have D1 := Hp.pick2 26 _ D.rowOut [0, 1, 25, 2, 23, 22, 9, 8, 3, 4, 5, 6, 7] [10, 11, 12, 13, 14, 15, 16, 17, 18, 19, 20, 21, 24] (by kernel_rfl) (by decide +kernel)
  have D2 : Hp K dr os s z ((rg (A2 A it due tab zr) 0 13).zip (itO (A2 A it due tab zr 1 + 417) (Int.ofNat m) :: j2 d.tg told r (fun j => zr + j) (q2 A) Y X F.P (A2 A it due tab zr) x) ++
      (pk (fx2 F.P d.tg told Y X A it due tab m x ++ rowL F.P Y A (r, zr)) [10, 11, 12, 13, 14, 15, 16, 17, 18, 19, 20, 21, 24] ++ (rowsL F.P Y A (pre ++ post) ++ R))) := Eq.mp (by kernel_rfl) D1
  refine turn2 hA hR H HK (A := A2 A it due tab zr) hI hn hr (d := d) (told := told) (m := m) (W := fun j => zr + j) (q := q2 A) (Y := Y) (X := X) (x := x) ?_ D2 (fun s' τ E => ?_)
  · exact ⟨f.it, f.due, f.tab, f.out⟩
  · have E1 := Hp.pick2 26 _ E.swap [0, 1, 3, 8, 9, 10, 11, 12, 7, 6, 13, 14, 15, 16, 17, 18, 19, 20, 21, 22, 23, 24, 5, 4, 25, 2] [] (by kernel_rfl) (by decide +kernel)
    refine hk s' τ ?_
    refine Hp.rowIn ?_
    exact Eq.mp (by kernel_rfl) E1
end
end Mine
end
section
set_option maxRecDepth 100000
set_option maxHeartbeats 4000000
namespace Mine
open PySem PySem.W PySem.W.X
noncomputable def isDue (tg : Bool) (r : Row) : Bool := match doOf tg r with | .out => false | _ => true
noncomputable def latD : List Due → Bool
  | [] => false
  | _ => true
structure I2 (tg : Bool) (e0 : Array DictEntry) (done : Rows) (ds : List Due) (x : Vals) : Prop where
  due : x.a 1 = (ds.reverse.map fun u => rf u.a).toArray
  tab : x.e 0 = tabF e0 ds
  rows : ds.reverse.map (fun u => (u.r, u.zr)) = done.filter (fun q => isDue tg q.1)
  kinds : ∀ u ∈ ds, u.d = doOf tg u.r ∧ u.d ≠ .out
theorem I2.len {tg : Bool} {e0 : Array DictEntry} {done : Rows} {ds : List Due} {x : Vals} (h : I2 tg e0 done ds x) : ds.length ≤ done.length := by
  have e := congrArg List.length h.rows
  simp only [List.length_map, List.length_reverse] at e
  rw [e]; exact List.length_filter_le _ _
theorem doOf_out {tg : Bool} {r : Row} (h : doOf tg r = .out) : tg = true ∧ r.gives = true ∧ r.way ≠ 0 := by
  unfold doOf at h
  split at h
  · cases h
  · cases h
  · rename_i h0
    exact ⟨rfl, by assumption, fun e => h0 e⟩
  · cases h
theorem doOf_tag {tg : Bool} {r : Row} (h : doOf tg r = .tag) (hg : r.gives = true) : tg = true ∧ r.way = 0 := by
  unfold doOf at h
  split at h
  · cases h
  · exact ⟨rfl, by assumption⟩
  · cases h
  · rename_i h0; rw [h0] at hg; cases hg
section
variable {F : Fix} {K : Addr → Option Obj} {dr : Drawn} {os : OsState} {R : List (Nat × Obj)} {κ : TK}
theorem kE2_step {rest : List (Nat × Obj)} {s : Shared} {z n m a l f e : Nat} {g : Nat → Addr} (hR : (kE2 m f).Run F.kt) (H : F.Ok) (HK : KOk F K) (hI : κ.Inv) (hn : n ≤ 30)
    (D : Hp K dr os s z ((a, itO (l + 417) (Int.ofNat m)) :: (l, lO (refsOf g m) e) :: rest)) (hk : ∀ s', Hp K dr os s' (z + 2) ((a, itEnd (Int.ofNat m)) :: (l, lO (refsOf g m) e) :: rest) → Post F.M κ (.ok .next) s') :
    GoodC F.M n none κ (loopC F.T 12 (rf a) (f + 417)) s := by
  let y : Vals := { v0 with r := g, n := fun _ => e }
  have D' : Hp K dr os s z ([a, l].zip ((kE2 m f).ins F.w.params (adr [a, l] z) y) ++ rest) := Eq.mp (by kernel_rfl) D
  refine Seg.step_c (S := kE2 m f) [a, l] y rfl hR H HK (rest := rest) D' rfl rfl rfl (Nat.le_of_ble_eq_true rfl) (by kernel_rfl) (fun τ K' O => uses_nil rfl) (fun _ => rfl) hI hn (fun s' τ E => ?_)
  exact hk s' (Eq.mp (by kernel_rfl) E)
/-- all turns of the second loop -/
theorem loop2 (hA : AllRuns F.kt) (hR : R2 F.kt) (hE : ∀ m f, 1 ≤ m → m ≤ 4 → (kE2 m f).Run F.kt) (H : F.Ok) (HK : KOk F K) (hI : κ.Inv) {A : Nat → Nat} {it due tab : Nat} {tg : Bool} {Y X : Vals} {e0 : Array DictEntry} {l : Rows}
    (hl : 1 ≤ l.length ∧ l.length ≤ 4) (hok : ∀ q ∈ l, q.1.Ok) (ha : X.a 0 = (l.map fun q => rf (q.2 + 64)).toArray) (h0 : AllStr e0) (hz : e0.size ≤ 60) (hsome : tg = true → ∀ q ∈ l, q.1.way ≠ 2 → (lookS e0 q.1.op).isSome = true) :
    ∀ (todo done : Rows) (n : Nat) (ds : List Due) (x : Vals) (s : Shared) (z : Nat), n ≤ 30 → l = done ++ todo → I2 tg e0 done ds x →
      Hp K dr os s z (fx2 F.P tg (latD ds) Y X A it due tab done.length x ++ (rowsL F.P Y A l.reverse ++ (duesL Y ds ++ R))) →
      (∀ s' z' ds' x', I2 tg e0 l ds' x' → Hp K dr os s' z' ((it, itEnd (Int.ofNat l.length)) :: (fx2 F.P tg (latD ds') Y X A it due tab l.length x').tail ++ (rowsL F.P Y A l.reverse ++ (duesL Y ds' ++ R))) → Post F.M κ (.ok .next) s') →
      GoodC F.M n none κ (loopC F.T 12 (rf it) (A 1 + 417)) s := by
  intro todo
  induction todo with
  | nil =>
    intro done n ds x s z hn hd h D hk
    have hd : l = done := by rw [hd, List.append_nil]
    subst hd
    have D1 : Hp K dr os s z ((it, itO (A 17 + 417) (Int.ofNat l.length)) :: (A 17, lO (refsOf (rowAt l) l.length) (X.n 100)) :: ((fx2 F.P tg (latD ds) Y X A it due tab l.length x).drop 2 ++ (rowsL F.P Y A l.reverse ++ (duesL Y ds ++ R)))) := by
      rw [← refs_rows, ← ha]; exact D
    refine kE2_step (hE _ _ hl.1 hl.2) H HK hI hn D1 fun s' E => hk s' (z + 2) ds x h ?_
    rw [← refs_rows, ← ha] at E
    exact E
  | cons q todo ih =>
    intro done n ds x s z hn hd h D hk
    obtain ⟨r, zr⟩ := q
    have hmem : (r, zr) ∈ l := by rw [hd]; simp
    have hrev : l.reverse = todo.reverse ++ (r, zr) :: done.reverse := by rw [hd]; simp
    have hlen := h.len
    have hdl : done.length < l.length := by rw [hd]; simp
    have hget : l[done.length]? = some (r, zr) := by rw [hd]; simp
    obtain ⟨t1, t2, t3⟩ := tabF_ok h0 ds
    have f : F2 (doOf tg r) r done.length (A2 A it due tab zr) X x := by
      refine ⟨?_, ?_, ?_, fun e => (doOf_out e).2⟩
      · rw [ha]; exact it_rows hget hl.2
      · rw [h.due]; simp; omega
      · intro e hg
        obtain ⟨htg, hw⟩ := doOf_tag e hg
        refine ⟨hw, ?_, ?_, ?_⟩
        · rw [h.tab]; exact t1
        · rw [h.tab, t2]; exact hz
        · rw [h.tab]; exact t3 _ (hsome htg _ hmem (by rw [hw]; decide))
    rw [hrev] at D
    refine step2 hA hR H HK hI hn (doOf_tg tg r) (hok _ hmem) f D (fun s' τ E => ?_)
    let u : Due := ⟨doOf tg r, r, zr, z, τ⟩
    by_cases ho : doOf tg r = .out
    · refine ih (done ++ [(r, zr)]) 30 ds (n2 (doOf tg r) (latD ds) r F.P (adr (rg (A2 A it due tab zr) 0 13) z) τ x) s' (z + d2 (doOf tg r)) (Nat.le_refl _) (by rw [hd]; simp) ?_ ?_ hk
      · refine ⟨?_, ?_, ?_, h.kinds⟩
        · rw [ho]; exact h.due
        · rw [ho]; exact h.tab
        · rw [h.rows, List.filter_append]
          have : isDue tg r = false := by unfold isDue; rw [ho]
          simp [this]
      · rw [hrev]
        rw [ho] at E ⊢
        have e : (done ++ [(r, zr)]).length = done.length + 1 := by simp
        rw [e]
        exact E
    · have hT : ∀ b, T2 (doOf tg r) b = true := fun b => by cases q : doOf tg r with | out => exact absurd q ho | _ => rfl
      refine ih (done ++ [(r, zr)]) 30 (u :: ds) (n2 (doOf tg r) (latD ds) r F.P (adr (rg (A2 A it due tab zr) 0 13) z) τ x) s' (z + d2 (doOf tg r)) (Nat.le_refl _) (by rw [hd]; simp) ?_ ?_ hk
      · refine ⟨?_, ?_, ?_, ?_⟩
        · rw [List.reverse_cons, List.map_append]
          show (n2 _ _ _ _ _ _ _).a 1 = _
          have : (n2 (doOf tg r) (latD ds) r F.P (adr (rg (A2 A it due tab zr) 0 13) z) τ x).a 1 = (x.a 1).push (rf u.a) := by
            show (match doOf tg r with | .tag => (x.a 1).push _ | .plain => (x.a 1).push _ | .out => x.a 1) = _
            unfold Due.a
            show _ = (x.a 1).push (rf (match doOf tg r with | .tag => z + 6 | .plain => z + 7 | .out => 0))
            cases q : doOf tg r with
            | tag => rfl
            | plain => rfl
            | out => exact absurd q ho
          rw [this, h.due]; simp
        · show (match doOf tg r, r.gives with | .tag, true => setE (x.e 0) r.op (.str (.mk #[]) (τ 17)) | _, _ => x.e 0) = (match doOf tg r, r.gives with | .tag, true => setE (tabF e0 ds) r.op (.str (.mk #[]) (τ 17)) | _, _ => tabF e0 ds)
          rw [h.tab]
        · rw [List.reverse_cons, List.map_append, h.rows, List.filter_append]
          have : isDue tg r = true := by unfold isDue; cases q : doOf tg r with | out => exact absurd q ho | _ => rfl
          simp [this, u]
        · intro v hv
          rcases List.mem_cons.mp hv with rfl | hv
          · exact ⟨rfl, ho⟩
          · exact h.kinds v hv
      · rw [hrev]
        have e : (done ++ [(r, zr)]).length = done.length + 1 := by simp
        rw [e]
        have e2 : duesL Y (u :: ds) ++ R = dueL Y u ++ (duesL Y ds ++ R) := by
          show (dueL Y u ++ duesL Y ds) ++ R = _
          rw [List.append_assoc]
        rw [e2]
        rw [hT] at E
        have e3 : dueL Y u = ((x2 (doOf tg r)).map (adr (rg (A2 A it due tab zr) 0 13) z)).zip (o2 (doOf tg r) r (fun j => zr + j) Y (adr (rg (A2 A it due tab zr) 0 13) z) τ) := by
          show ((x2 (doOf tg r)).map fun j => z + (j - 13)).zip (o2 (doOf tg r) r (fun j => zr + j) Y (fun j => z + (j - 13)) τ) = _
          cases q : doOf tg r with
          | tag => cases r.gives <;> rfl
          | plain => rfl
          | out => rfl
        rw [e3]
        exact E
end
end Mine
end
section
set_option maxRecDepth 100000
set_option maxHeartbeats 4000000
namespace Mine
open PySem PySem.W PySem.W.X
/-- the frame's values where the second loop begins, as its letters -/
noncomputable def X2 (fv : Nat → Value) (x : Vals) : Vals :=
  { v0 with a := fun _ => x.a 2, n := fun _ => x.n 102
            v := fun j => ([fv 0, fv 1, fv 2, fv 4, fv 5, fv 7, fv 8, fv 9, fv 10, .none, .none, .none, fv 14, fv 15, .none, fv 17] : List Value).getD j .none }
noncomputable def x2s (ft : Nat → Tok) (fv : Nat → Value) (x : Vals) : Vals :=
  { v0 with t := fun j => ft (j - 2), e := fun _ => x.e 2, n := fun j => match j with | 0 => (x.e 2).size | _ => 0
            v := fun j => match j with | 9 => fv 11 | 10 => fv 12 | 11 => fv 13 | 14 => fv 16 | _ => .none }
/-- and where it ends -/
noncomputable def ft3 (x : Vals) : Nat → Tok := fun j => x.t (2 + j)
noncomputable def fv3 (tg : Bool) (X : Vals) (A : Nat → Nat) (due tab : Nat) (x : Vals) : Nat → Value := fun j => ([X.v 0, X.v 1, X.v 2, rf (A 4), X.v 3, X.v 4, .bool tg, X.v 5, X.v 6, X.v 7, X.v 8, x.v 9, x.v 10, x.v 11, X.v 12, X.v 13, x.v 14, X.v 15, rf tab, rf due, x.v 16] : List Value).getD j .none
/-- the third loop's letters -/
noncomputable def X3 (told : Bool) (ft : Nat → Tok) (fv : Nat → Value) (x : Vals) : Vals :=
  { v0 with a := fun _ => x.a 2, n := fun _ => x.n 102
            t := fun j => ft (match told with | true => j - 2 | false => (match Nat.blt j 22 with | true => j - 2 | false => j - 1))
            v := fun j => ([fv 0, fv 1, fv 2, fv 3, fv 4, fv 5, fv 6, fv 7, fv 9, fv 10, .none, .none, .none, fv 14, fv 15, .none, fv 18, fv 19, fv 20, fv 22] : List Value).getD j .none }
noncomputable def x3s (P : Params) (fv : Nat → Value) (cnt : Int) (ct : Tok) (x : Vals) : Vals :=
  { v0 with t := fun j => match j with | 0 => x.t 94 | _ => ct
            i := fun j => match j with | 0 => x.i 3 | _ => cnt
            e := fun j => match j with | 0 => (x.e 1).push (ent P inhS 636 (.int cnt ct)) | 1 => #[] | _ => x.e 2
            n := fun j => match j with | 0 => x.n 1 + 1 | 2 => (x.e 2).size | _ => 0
            v := fun j => match j with | 10 => fv 11 | 11 => fv 12 | 12 => fv 13 | 15 => fv 16 | _ => .none }
/-- the third loop's addresses that are no row's -/
structure Ad3 where
  it : Nat
  mi : Nat
  md : Nat
  sc : Nat
  scd : Nat
  q : Nat
  qd : Nat
  qn : Nat
  qo : Nat
  mo : Nat
noncomputable def A3 (A : Nat → Nat) (d : Ad3) (zr : Nat) (j : Nat) : Nat := ([d.it, A 17, zr + 64, A 1, zr + 34, zr + 33, zr + 9, zr + 8, zr + 21, zr + 20, zr + 18, zr + 17, zr + 24, zr + 23, A 5, A 6, A 7, A 8, d.mi, d.md, d.sc, d.scd, d.q, d.qd, A 12, A 13, A 14, d.qn, d.qo, d.mo] : List Nat).getD j 0
/-- what the third loop touches -/
noncomputable def fx3 (P : Params) (tg told : Bool) (X M S Q Z : Vals) (A : Nat → Nat) (d : Ad3) (m : Nat) (x : Vals) : List (Nat × Obj) :=
  [(d.it, itO (A 17 + 417) (Int.ofNat m)), (A 17, lO (Z.a 0) (Z.n 100)), (A 1, fr3 P told Z (A3 A d 0) x), (A 5, inst 223 (A 6 + 417)), (A 6, tyD P X 21 11 61 (X.v 33)), (A 7, inst 223 (A 8 + 417)), (A 8, tyD P X 46 34 71 (rf (A 16))),
   (d.mi, inst 223 (d.md + 417)), (d.md, mdD P tg M (rf d.mo)), (d.sc, inst 331 (d.scd + 417)), (d.scd, scD P S (rf d.q)), (d.q, inst 141 (d.qd + 417)), (d.qd, qD P Q (A 12) d.qn d.qo),
   (A 12, inst 141 (A 13 + 417)), (A 13, rootD P X (x.i 0) (x.t 0) (A 14)), (A 14, dO (x.e 0) (x.n 0)), (d.qn, dO (x.e 1) (x.n 1)), (d.qo, lO (x.a 1) (x.n 101)), (d.mo, dO (x.e 2) (x.n 2))]
/-- the others, that the end reads again -/
noncomputable def lE (P : Params) (X : Vals) (A : Nat → Nat) (x' : Vals) (due tab : Nat) : List (Nat × Obj) :=
  [(A 4, lO #[rf (A 9), .ref (X.r 0)] 2), (due, lO (x'.a 1) (x'.n 101)), (A 9, inst 141 (A 10 + 417)), (A 10, pD P X (A 12) (A 11) (A 15)), (tab, dO (x'.e 0) (x'.n 0))]
section
variable {F : Fix} {K : Addr → Option Obj} {dr : Drawn} {os : OsState} {s : Shared} {z n : Nat} {κ : TK}
noncomputable def adC (tg : Bool) (z0 f sd c zb z : Nat) : Ad3 := ⟨z + 13, mdi tg zb, mdd tg zb, z + 5, z + 4, aA z0 88, aA z0 87, aA z0 90, aA z0 91, mdo tg zb⟩
noncomputable def fvC (v : Nat) (fv : Nat → Value) (τ : Nat → Tok) (z : Nat) : Nat → Value := fun j => match j with | 21 => rf (z + 5) | 22 => .int (cnt3 v) (cntT τ v) | j => fv j
noncomputable def ftC (ft : Nat → Tok) (τ : Nat → Tok) : Nat → Tok := fun j => match j with | 21 => τ 57 | 22 => τ 79 | j => ft j
theorem phC {tg told : Bool} {z0 f sd c zb v it due tab nn : Nat} {x x' y M : Vals} {t τb τb' : Nat → Nat} {R : List (Nat × Obj)} (hA : AllRuns F.kt) (hC : ∀ X, (kSc told v X).Run F.kt) (H : F.Ok) (HK : KOk F K) (hn : n ≤ 20)
    (fv : SvFact (y.a 0) (x.i 0) 3 (Int.ofNat v)) (c0 : AllStr (x.e 1)) (c1 : lookS (x.e 1) inhS = none) (c2 : (x.e 1).size ≤ 60)
    (D : Hp K dr os s z (((it, itEnd (Int.ofNat nn)) :: (fx2 F.P tg told (XA tg (aA z0) (aB z0) t y) (X2 (fv2 tg (XA tg (aA z0) (aB z0) t y) (AL tg z0 f sd c) x zb) x) (AL tg z0 f sd c) it due tab nn x').tail) ++
      (lX F.P tg (XA tg (aA z0) (aB z0) t y) M (AL tg z0 f sd c) x (mdi tg zb) (mdd tg zb) (mdo tg zb) ++ (lQ F.P z0 t ++ R))))
    (hk : ∀ s' τ J, Hp K dr os s' (z + 14) (fx3 F.P tg told (XA tg (aA z0) (aB z0) t y) M (SC (adr [f, sd, c, AL tg z0 f sd c 4, AL tg z0 f sd c 12, AL tg z0 f sd c 13, AL tg z0 f sd c 14, AL tg z0 f sd c 17] z) τ) (QA (aA z0) t)
        (X3 told (ftC (ft3 x') τ) (fvC v (fv3 tg (X2 (fv2 tg (XA tg (aA z0) (aB z0) t y) (AL tg z0 f sd c) x zb) x) (AL tg z0 f sd c) due tab x') τ z) x) (AL tg z0 f sd c) (adC tg z0 f sd c zb z) 0
        (x3s F.P (fv3 tg (X2 (fv2 tg (XA tg (aA z0) (aB z0) t y) (AL tg z0 f sd c) x zb) x) (AL tg z0 f sd c) due tab x') (cnt3 v) (cntT τ v) x) ++
      (lE F.P (XA tg (aA z0) (aB z0) t y) (AL tg z0 f sd c) x' due tab ++ (J ++ R))) → Good F.M 20 none κ (loopT3 F.T (rf (z + 13)) (f + 417)) s') :
    Good F.M n none κ (lawT F.T 13 (f + 417)) s := by
  let A := AL tg z0 f sd c
  let X := XA tg (aA z0) (aB z0) t y
  let W := X2 (fv2 tg X A x zb) x
  let fv0 := fv3 tg W A due tab x'
  let yc : Vals := { v0 with t := fun j => match Nat.blt j 30 with | true => ft3 x' j | false => (match j with | 30 => X.t 18 | 31 => X.t 19 | 32 => x.t 20 | _ => x.t 94), v := fv0, a := fun j => match j with | 0 => X.a 0 | _ => x.a 2, e := fun _ => x.e 1, n := fun j => match j with | 0 => x.n 1 | 100 => X.n 100 | _ => x.n 102, i := fun j => match j with | 0 => x.i 0 | _ => x.i 3, r := fun j => match j with | 0 => X.r 0 | _ => A 9 }
  have D1 := D.assoc.assoc
  have D2 := Hp.pick2 24 _ D1 [2, 8, 9, 4, 14, 15, 16, 1] [0, 3, 5, 6, 7, 10, 11, 12, 13, 17, 18, 19, 20, 21, 22, 23] (by kernel_rfl) (by decide +kernel)
  let ad : List Nat := [f, sd, c, A 4, A 12, A 13, A 14, A 17]
  let L0 : List (Nat × Obj) := (((it, itEnd (Int.ofNat nn)) :: (fx2 F.P tg told X W A it due tab nn x').tail) ++ lX F.P tg X M A x (mdi tg zb) (mdd tg zb) (mdo tg zb)) ++ lQ F.P z0 t
  let R1 : List (Nat × Obj) := pk L0 [0, 3, 5, 6, 7, 10, 11, 12, 13, 17, 18, 19, 20, 21, 22, 23]
  have D3 : Hp K dr os s z (ad.zip ((kSc told v X).ins F.P (adr ad z) yc) ++ (R1 ++ R)) := by cases tg <;> cases told <;> exact Eq.mp (by kernel_rfl) D2
  refine Seg.step_t (S := kSc told v X) ad yc rfl (hC X) H HK D3 rfl rfl rfl (Nat.le_of_ble_eq_true rfl) (by kernel_rfl)
    (fun τ K' O => uses_all (all_cons (sv_use hA.hSv H O (Nat.le_of_ble_eq_true rfl) _ _ (by decide) _ _ _ _ _ fv) (all_cons (dnew_use O _ _ _ _ _ _ c0 c2 c1) all_nil))) (fun _ => rfl) hn (fun s' τ E => ?_)
  have E2 := Hp.pick2 27 _ E.assoc [10, 7, 0, 16, 17, 18, 19, 20, 21, 8, 9, 23, 24, 4, 5, 6, 25, 26, 22, 3, 12, 13, 14, 15] [1, 2, 11] (by kernel_rfl) (by decide +kernel)
  let J : List (Nat × Obj) := pk (((kSc told v X).xs.map (adr ad z)).zip ((kSc told v X).outs F.w.params (adr ad z) τ yc) ++ R1) [1, 2, 11]
  refine hk s' τ J ?_
  cases tg <;> cases told <;> exact Eq.mp (by kernel_rfl) E2
end
end Mine
end
section
set_option maxRecDepth 100000
set_option maxHeartbeats 4000000
namespace Mine
open PySem PySem.W PySem.W.X
structure Her where
  d : Do
  r : Row
  zr : Nat
  zh : Nat
  t : Nat → Tok
  x : Vals
noncomputable def Her.N (h : Her) (j : Nat) : Nat := h.zh + (3 + j)
noncomputable def Her.tg (h : Her) : Bool := h.d.tg
/-- the entity's address -/
noncomputable def Her.a (h : Her) : Nat := h.N (b0 h.d.tg h.r.gives + kx h.r.both 32)
structure Lt where
  X : Vals
  M : Vals
  S : Vals
  Q : Vals
  mi : Nat
  p : Nat
noncomputable def heL (P : Params) (l : Lt) (h : Her) : List (Nat × Obj) := ((newY h.d.tg h.r.has h.r.gives).map h.N).zip (newD P h.d.tg h.r (fun j => h.zr + j) l.mi l.p l.X l.M l.S l.Q h.N (fun j => h.t (4 + j)) h.x)
noncomputable def newH (P : Params) (l : Lt) (d : Do) (h : Her) : List (Nat × Obj) := match d with | .out => [] | _ => heL P l h
noncomputable def hesL (P : Params) (l : Lt) (hs : List Her) : List (Nat × Obj) := hs.flatMap (heL P l)
noncomputable def g3 (A : Nat → Nat) (j : Nat) : Nat := ([A 16, 0, A 9] : List Nat).getD j 0
section
variable {F : Fix} {K : Addr → Option Obj} {dr : Drawn} {os : OsState} {R : List (Nat × Obj)} {s : Shared} {z n : Nat} {κ : TK}
theorem step3 (hA : AllRuns F.kt) (hRI : RI F.kt) (hRD : RD F.kt) (hR : R3 F.kt) (H : F.Ok) (HK : KOk F K) {A : Nat → Nat} {D3 : Ad3} {m zr : Nat} {tg told : Bool} {d : Do} {r : Row} {X M S Q Z x : Vals} {pre post : Rows} (hI : κ.Inv) (hn : n ≤ 30) (hd : d.tg = tg) (hr : r.Ok)
    (f : F3 d r m (A3 A D3 zr) Z x)
    (D : Hp K dr os s z (fx3 F.P tg told X M S Q Z A D3 m x ++ (rowsL F.P X A (pre ++ (r, zr) :: post) ++ R)))
    (hk : ∀ s' τ, Hp K dr os s' (z + d3 d r) (fx3 F.P tg told X M S Q Z A D3 (m + 1) (n3 d r F.P (adr (rg (A3 A D3 zr) 0 30) z) τ x) ++ (rowsL F.P X A (pre ++ (r, zr) :: post) ++
      (newH F.P ⟨X, M, S, Q, D3.mi, A 9⟩ d ⟨d, r, zr, z, τ, x⟩ ++ R))) → GoodC F.M 30 none κ (loopC3 F.T (rf D3.it) (A 1 + 417)) s') :
    GoodC F.M n none κ (loopC3 F.T (rf D3.it) (A 1 + 417)) s := by
  subst hd
  have D1 := Hp.pick2 37 _ D.rowOut [0, 1, 36, 2, 34, 33, 20, 19, 27, 26, 25, 24, 29, 28, 3, 4, 5, 6, 7, 8, 9, 10, 11, 12, 13, 14, 15, 16, 17, 18] [21, 22, 23, 30, 31, 32, 35] (by kernel_rfl) (by decide +kernel)
  have D2 : Hp K dr os s z ((rg (A3 A D3 zr) 0 30).zip (itO (A3 A D3 zr 1 + 417) (Int.ofNat m) :: j3 d.tg told r (fun j => zr + j) (g3 A) X M S Q Z F.P (A3 A D3 zr) x) ++
      (pk (fx3 F.P d.tg told X M S Q Z A D3 m x ++ rowL F.P X A (r, zr)) [21, 22, 23, 30, 31, 32, 35] ++ (rowsL F.P X A (pre ++ post) ++ R))) := Eq.mp (by kernel_rfl) D1
  refine turn3 hA hRI hRD hR H HK (A := A3 A D3 zr) hn hr (d := d) (told := told) (m := m) (W := fun j => zr + j) (g := g3 A) (X := X) (M := M) (S := S) (Q := Q) (X3 := Z) (x := x) ⟨f.it, f.fd, f.out⟩ (fun c s' h q => good_again hI q h) hI D2 (fun s' τ E => ?_)
  have E1 := Hp.pick2 37 _ E.swap [0, 1, 3, 14, 15, 16, 17, 18, 19, 20, 21, 22, 23, 24, 25, 26, 27, 28, 29, 7, 6, 30, 31, 32, 11, 10, 9, 8, 13, 12, 33, 34, 35, 5, 4, 36, 2] [] (by kernel_rfl) (by decide +kernel)
  refine hk s' τ ?_
  refine Hp.rowIn ?_
  obtain ⟨has, gives, way, k, t, i⟩ := r
  cases d <;> cases has <;> cases gives <;> exact Eq.mp (by kernel_rfl) E1
end
end Mine
end
section
set_option maxRecDepth 100000
set_option maxHeartbeats 4000000
namespace Mine
open PySem PySem.W PySem.W.X
/-- the makers' keys are told anew by declare_inherited -/
noncomputable def tabG (e : Array DictEntry) : List Her → Array DictEntry
  | [] => e
  | h :: hs => match mk3 h.d.tg h.r.gives with | true => setE (tabG e hs) h.r.op (.str (.mk #[]) (h.t (4 + (tD h.d.tg h.r.has h.r.gives + 68)))) | false => tabG e hs
theorem tabG_ok {e : Array DictEntry} (h : AllStr e) : ∀ hs : List Her, AllStr (tabG e hs) ∧ (tabG e hs).size = e.size ∧ ∀ y, (lookS e y).isSome = true → (lookS (tabG e hs) y).isSome = true
  | [] => ⟨h, rfl, fun _ q => q⟩
  | u :: hs => by
    obtain ⟨h1, h2, h3⟩ := tabG_ok h hs
    unfold tabG
    split
    · exact ⟨allS_setE h1 _ _, by rw [size_setE]; exact h2, fun y q => look_setE_some h1 (h3 y q)⟩
    · exact ⟨h1, h2, h3⟩
structure I3 (tg : Bool) (e0 : Array DictEntry) (cnt : Int) (done todo : Rows) (hs : List Her) (x : Vals) : Prop where
  c0 : AllStr (x.e 0)
  c1 : lookS (x.e 0) inhS = some (.int (x.i 1) (x.t 1))
  c2 : (x.e 0).size ≤ 60
  c3 : ∀ q ∈ todo, ∃ t, lookS (x.e 0) (nm q.1.k) = some (.int 1 t)
  c4 : x.i 1 = cnt + (hs.length : Int)
  c5 : x.i 1 ≤ 20000
  n0 : AllStr (x.e 1)
  n1 : ∀ q ∈ todo, lookS (x.e 1) (nm q.1.k) = none
  n2 : (x.e 1).size ≤ hs.length
  order : x.a 1 = (hs.reverse.map fun h => rf h.a).toArray
  ops : x.e 2 = tabG e0 hs
  rows : hs.reverse.map (fun u => (u.r, u.zr)) = done.filter (fun q => isDue tg q.1)
  kinds : ∀ u ∈ hs, u.d = doOf tg u.r ∧ u.d ≠ .out
theorem I3.len {tg : Bool} {e0 : Array DictEntry} {cnt : Int} {done todo : Rows} {hs : List Her} {x : Vals} (h : I3 tg e0 cnt done todo hs x) : hs.length ≤ done.length := by
  have e := congrArg List.length h.rows
  simp only [List.length_map, List.length_reverse] at e
  rw [e]; exact List.length_filter_le _ _
/-- the letters with the name's count told -/
noncomputable def wt (x : Vals) (ct : Tok) : Vals := { x with t := fun j => match j with | 2 => ct | j => x.t j }
theorem nD_e0 {tg : Bool} {r : Row} {P : Params} {N τ : Nat → Nat} {x : Vals} : (nD tg r P N τ x).e 0 = setE (setE (x.e 0) inhS (.int (x.i 1 + 1) (τ (t0 tg r.gives - 3)))) (nm r.k) (.int 2 (τ (tD tg r.has r.gives + 44))) := rfl
/-- after an inherited one -/
theorem I3.next {tg : Bool} {e0 : Array DictEntry} {cnt : Int} {done todo : Rows} {hs : List Her} {x : Vals} {d : Do} {r : Row} {zr z : Nat} {P : Params} {σ τ : Nat → Nat} {ct : Tok} (h : I3 tg e0 cnt done ((r, zr) :: todo) hs x)
    (hm : x.i 1 + 1 ≤ 20000) (hk : ∀ q ∈ todo, q.1.k ≠ r.k) (hd : d = doOf tg r) (ho : d ≠ .out) (hz : ∀ j, σ (33 + j) = z + (3 + j)) : I3 tg e0 cnt (done ++ [(r, zr)]) todo (⟨d, r, zr, z, τ, wt x ct⟩ :: hs) (nD d.tg r P (fun j => σ (33 + j)) (fun j => τ (4 + j)) (nF r σ (wt x ct))) := by
  have hdt : d.tg = tg := by rw [hd]; exact doOf_tg tg r
  have due : isDue tg r = true := by unfold isDue; rw [← hd]; cases d <;> first | rfl | exact absurd rfl ho
  have s1 : AllStr (setE (x.e 0) inhS (.int (x.i 1 + 1) (τ (4 + (t0 d.tg r.gives - 3))))) := allS_setE h.c0 _ _
  have i1 : lookS (setE (x.e 0) inhS (.int (x.i 1 + 1) (τ (4 + (t0 d.tg r.gives - 3))))) inhS = some (.int (x.i 1 + 1) (τ (4 + (t0 d.tg r.gives - 3)))) := look_setE_same h.c0 (isSome_of h.c1)
  have nmi : (nm r.k == inhS) = false := by rw [Bool.beq_comm]; exact inh_ne _
  refine ⟨allS_setE s1 _ _, ?_, ?_, ?_, ?_, hm, allS_push h.n0 _ _ _ _, ?_, ?_, ?_, ?_, ?_, ?_⟩
  · show lookS (setE (setE (x.e 0) inhS (.int (x.i 1 + 1) (τ (4 + (t0 d.tg r.gives - 3))))) (nm r.k) _) inhS = some (.int (x.i 1 + 1) (τ (4 + (t0 d.tg r.gives - 3))))
    rw [look_setE_ne s1 nmi]; exact i1
  · show (setE (setE (x.e 0) _ _) _ _).size ≤ 60
    rw [size_setE, size_setE]; exact h.c2
  · intro q hq
    obtain ⟨t, e⟩ := h.c3 q (List.mem_cons_of_mem _ hq)
    refine ⟨t, ?_⟩
    show lookS (setE (setE (x.e 0) inhS (.int (x.i 1 + 1) (τ (4 + (t0 d.tg r.gives - 3))))) (nm r.k) _) (nm q.1.k) = _
    rw [look_setE_ne s1 (nm_ne (hk q hq).symm), look_setE_ne h.c0 (inh_ne _)]
    exact e
  · show x.i 1 + 1 = _
    rw [h.c4]; simp; omega
  · intro q hq
    show lookS ((x.e 1).push _) _ = none
    rw [look_push_ne (nm_ne (hk q hq).symm)]
    exact h.n1 q (List.mem_cons_of_mem _ hq)
  · show ((x.e 1).push _).size ≤ _
    have := h.n2
    simp; omega
  · show (x.a 1).push (rf (σ (33 + (b0 d.tg r.gives + kx r.both 32)))) = _
    rw [h.order, hz]; simp [Her.a, Her.N]
  · show (match mk3 d.tg r.gives with | true => setE (x.e 2) r.op (.str (.mk #[]) (τ (4 + (tD d.tg r.has r.gives + 68)))) | false => x.e 2) = (match mk3 d.tg r.gives with | true => setE (tabG e0 hs) r.op (.str (.mk #[]) (τ (4 + (tD d.tg r.has r.gives + 68)))) | false => tabG e0 hs)
    rw [h.ops]
  · rw [List.reverse_cons, List.map_append, h.rows, List.filter_append]
    simp [due]
  · intro u hu
    rcases List.mem_cons.mp hu with rfl | hu
    · exact ⟨hd, ho⟩
    · exact h.kinds u hu
end Mine
end
section
set_option maxRecDepth 100000
set_option maxHeartbeats 4000000
namespace Mine
open PySem PySem.W PySem.W.X
section
variable {F : Fix} {K : Addr → Option Obj} {dr : Drawn} {os : OsState} {R : List (Nat × Obj)} {κ : TK}
theorem kE3_step {rest : List (Nat × Obj)} {s : Shared} {z n m a l f e : Nat} {g : Nat → Addr} (hR : (kE3 m f).Run F.kt) (H : F.Ok) (HK : KOk F K) (hI : κ.Inv) (hn : n ≤ 30)
    (D : Hp K dr os s z ((a, itO (l + 417) (Int.ofNat m)) :: (l, lO (refsOf g m) e) :: rest)) (hk : ∀ s', Hp K dr os s' (z + 2) ((a, itEnd (Int.ofNat m)) :: (l, lO (refsOf g m) e) :: rest) → Post F.M κ (.ok .next) s') :
    GoodC F.M n none κ (loopC3 F.T (rf a) (f + 417)) s := by
  let y : Vals := { v0 with r := g, n := fun _ => e }
  have D' : Hp K dr os s z ([a, l].zip ((kE3 m f).ins F.w.params (adr [a, l] z) y) ++ rest) := Eq.mp (by kernel_rfl) D
  refine Seg.step_c (S := kE3 m f) [a, l] y rfl hR H HK (rest := rest) D' rfl rfl rfl (Nat.le_of_ble_eq_true rfl) (by kernel_rfl) (fun τ K' O => uses_nil rfl) (fun _ => rfl) hI hn (fun s' τ E => ?_)
  exact hk s' (Eq.mp (by kernel_rfl) E)
/-- all turns of the third loop; hx: what is done where the count is at its most -/
theorem loop3 (hA : AllRuns F.kt) (hRI : RI F.kt) (hRD : RD F.kt) (hR : R3 F.kt) (hE : ∀ m f, 1 ≤ m → m ≤ 4 → (kE3 m f).Run F.kt) (H : F.Ok) (HK : KOk F K) (hI : κ.Inv) {A : Nat → Nat} {D3 : Ad3} {tg told : Bool} {X M S Q Z : Vals} {e0 : Array DictEntry} {cnt : Int} {l : Rows}
    (hl : 1 ≤ l.length ∧ l.length ≤ 4) (hok : RowsOk l.reverse) (ha : Z.a 0 = (l.map fun q => rf (q.2 + 64)).toArray) (h0 : AllStr e0) (hz : e0.size ≤ 60) (hsome : tg = true → ∀ q ∈ l, q.1.way ≠ 2 → (lookS e0 q.1.op).isSome = true)
    (hx : ∀ (done todo : Rows) (r : Row) (zr : Nat) (hs : List Her) (x : Vals) (s : Shared) (z : Nat), l = done ++ (r, zr) :: todo → isDue tg r = true → I3 tg e0 cnt done ((r, zr) :: todo) hs x → 20000 ≤ x.i 1 →
      Hp K dr os s z (fx3 F.P tg told X M S Q Z A D3 done.length x ++ (rowsL F.P X A l.reverse ++ (hesL F.P ⟨X, M, S, Q, D3.mi, A 9⟩ hs ++ R))) → ∀ n, n ≤ 30 → GoodC F.M n none κ (loopC3 F.T (rf D3.it) (A 1 + 417)) s) :
    ∀ (todo done : Rows) (n : Nat) (hs : List Her) (x : Vals) (s : Shared) (z : Nat), n ≤ 30 → l = done ++ todo → I3 tg e0 cnt done todo hs x →
      Hp K dr os s z (fx3 F.P tg told X M S Q Z A D3 done.length x ++ (rowsL F.P X A l.reverse ++ (hesL F.P ⟨X, M, S, Q, D3.mi, A 9⟩ hs ++ R))) →
      (∀ s' z' hs' x', I3 tg e0 cnt l [] hs' x' → Hp K dr os s' z' ((D3.it, itEnd (Int.ofNat l.length)) :: (fx3 F.P tg told X M S Q Z A D3 l.length x').tail ++ (rowsL F.P X A l.reverse ++ (hesL F.P ⟨X, M, S, Q, D3.mi, A 9⟩ hs' ++ R))) → Post F.M κ (.ok .next) s') →
      GoodC F.M n none κ (loopC3 F.T (rf D3.it) (A 1 + 417)) s := by
  have okAll : ∀ q ∈ l, q.1.Ok ∧ q.1.k ≤ 3 ∧ (q.1.way = 0 ∨ q.1.way = 1 ∨ q.1.way = 2) := by
    have gen : ∀ qs : Rows, qs.length ≤ 4 → RowsOk qs → ∀ q ∈ qs, q.1.Ok ∧ q.1.k ≤ 3 ∧ (q.1.way = 0 ∨ q.1.way = 1 ∨ q.1.way = 2) := by
      intro qs
      induction qs with
      | nil => intro _ _ q hq; cases hq
      | cons a qs ih =>
        intro hl h q hq
        simp only [List.length_cons] at hl
        rcases List.mem_cons.mp hq with rfl | hq
        · exact ⟨h.2.1, by rw [h.1]; omega, h.2.2.1⟩
        · exact ih (by omega) h.2.2.2 q hq
    intro q hq
    exact gen l.reverse (by simpa using hl.2) hok q (by simpa using hq)
  have distinct : ∀ (done todo : Rows) (r : Row) (zr : Nat), l = done ++ (r, zr) :: todo → ∀ q ∈ todo, q.1.k ≠ r.k := by
    intro done todo r zr e
    have e2 : l.reverse = todo.reverse ++ (r, zr) :: done.reverse := by rw [e]; simp
    have gen : ∀ (a b : Rows) (r : Row) (zr : Nat), RowsOk (a ++ (r, zr) :: b) → ∀ q ∈ a, r.k < q.1.k := by
      intro a
      induction a with
      | nil => intro b r zr _ q hq; cases hq
      | cons c a ih =>
        intro b r zr h q hq
        have hb : r.k = b.length := by
          have drop : ∀ (a : Rows), RowsOk (a ++ (r, zr) :: b) → RowsOk ((r, zr) :: b) := by
            intro a
            induction a with
            | nil => exact id
            | cons _ _ ih => exact fun h => ih h.2.2.2
          exact (drop _ h).1
        rcases List.mem_cons.mp hq with rfl | hq
        · have : q.1.k = (a ++ (r, zr) :: b).length := h.1
          rw [this, hb]; simp; omega
        · exact ih b r zr h.2.2.2 q hq
    intro q hq
    have := gen todo.reverse done.reverse r zr (by rw [← e2]; exact hok) q (by simpa using hq)
    omega
  intro todo
  induction todo with
  | nil =>
    intro done n hs x s z hn hd h D hk
    have hd : l = done := by rw [hd, List.append_nil]
    subst hd
    have D1 : Hp K dr os s z ((D3.it, itO (A 17 + 417) (Int.ofNat l.length)) :: (A 17, lO (refsOf (rowAt l) l.length) (Z.n 100)) :: ((fx3 F.P tg told X M S Q Z A D3 l.length x).drop 2 ++ (rowsL F.P X A l.reverse ++ (hesL F.P ⟨X, M, S, Q, D3.mi, A 9⟩ hs ++ R)))) := by
      rw [← refs_rows, ← ha]; exact D
    refine kE3_step (hE _ _ hl.1 hl.2) H HK hI hn D1 fun s' E => hk s' (z + 2) hs x h ?_
    rw [← refs_rows, ← ha] at E
    exact E
  | cons q todo ih =>
    intro done n hs x s z hn hd h D hk
    obtain ⟨r, zr⟩ := q
    have hmem : (r, zr) ∈ l := by rw [hd]; simp
    have hrev : l.reverse = todo.reverse ++ (r, zr) :: done.reverse := by rw [hd]; simp
    have hlen := h.len
    have hdl : done.length < l.length := by rw [hd]; simp
    have hget : l[done.length]? = some (r, zr) := by rw [hd]; simp
    obtain ⟨t1, t2, t3⟩ := tabG_ok h0 hs
    obtain ⟨rok, rk, rw3⟩ := okAll _ hmem
    have hit : ItFact (Z.a 0) done.length (A3 A D3 zr 2 + 417) := by rw [ha]; exact it_rows hget hl.2
    by_cases ho : doOf tg r = .out
    · have f : F3 (doOf tg r) r done.length (A3 A D3 zr) Z x := by
        refine ⟨hit, fun e => absurd ho e, fun _ => ?_⟩
        obtain ⟨_, h1, h2⟩ := doOf_out ho
        exact ⟨h1, by rcases rw3 with e | e | e <;> first | exact absurd e h2 | (left; exact e) | (right; exact e)⟩
      rw [hrev] at D
      refine step3 hA hRI hRD hR H HK hI hn (doOf_tg tg r) rok f D (fun s' τ E => ?_)
      rw [ho] at E
      refine ih (done ++ [(r, zr)]) 30 hs (n3 (doOf tg r) r F.P (adr (rg (A3 A D3 zr) 0 30) z) τ x) s' (z + d3 (doOf tg r) r) (Nat.le_refl _) (by rw [hd]; simp) ?_ ?_ hk
      · rw [ho]
        refine ⟨h.c0, h.c1, h.c2, fun q hq => h.c3 q (List.mem_cons_of_mem _ hq), h.c4, h.c5, h.n0, fun q hq => h.n1 q (List.mem_cons_of_mem _ hq), h.n2, h.order, h.ops, ?_, h.kinds⟩
        rw [h.rows, List.filter_append]
        have : isDue tg r = false := by unfold isDue; rw [ho]
        simp [this]
      · rw [hrev, ho]
        have e : (done ++ [(r, zr)]).length = done.length + 1 := by simp
        rw [e]
        exact E
    · have hdue : isDue tg r = true := by unfold isDue; cases q : doOf tg r with | out => exact absurd q ho | _ => rfl
      by_cases hm : x.i 1 + 1 ≤ 20000
      · obtain ⟨ct, hct⟩ := h.c3 _ List.mem_cons_self
        have f : F3 (doOf tg r) r done.length (A3 A D3 zr) Z (wt x ct) := by
          refine ⟨hit, fun _ => ?_, fun e => absurd e ho⟩
          rw [doOf_tg]
          refine ⟨rok, rk, h.c0, h.c1, h.c2, hct, hm, h.n0, h.n1 _ List.mem_cons_self, by show (x.e 1).size ≤ 60; have := h.n2; omega, ?_, fun e => ?_⟩
          · show (x.a 1).size ≤ 60
            rw [h.order]; simp; omega
          · have htg : tg = true := by cases tg <;> first | rfl | cases e
            have hg : r.gives = true := by subst htg; exact e
            have hdo : doOf tg r = .tag := by
              subst htg
              cases q : doOf true r with
              | tag => rfl
              | out => exact absurd q ho
              | plain => have w := doOf_tg true r; rw [q] at w; cases w
            obtain ⟨_, hw⟩ := doOf_tag hdo hg
            have hlook := hsome htg _ hmem (by rw [hw]; decide)
            show r.way = 0 ∧ AllStr (x.e 2) ∧ (x.e 2).size ≤ 60 ∧ (lookS (x.e 2) r.op).isSome = true
            rw [h.ops]
            exact ⟨hw, t1, by rw [t2]; exact hz, t3 _ hlook⟩
        rw [hrev] at D
        refine step3 (x := wt x ct) hA hRI hRD hR H HK hI hn (doOf_tg tg r) rok f D (fun s' τ E => ?_)
        refine ih (done ++ [(r, zr)]) 30 (⟨doOf tg r, r, zr, z, τ, wt x ct⟩ :: hs) (nD (doOf tg r).tg r F.P (fun j => adr (rg (A3 A D3 zr) 0 30) z (33 + j)) (fun j => τ (4 + j)) (nF r (adr (rg (A3 A D3 zr) 0 30) z) (wt x ct))) s' (z + d3 (doOf tg r) r) (Nat.le_refl _) (by rw [hd]; simp) ?_ ?_ hk
        · refine h.next hm (distinct done todo r zr hd) rfl ho (fun j => ?_)
          have hl : (rg (A3 A D3 zr) 0 30).length = 30 := rfl
          rw [adr_ge (by rw [hl]; omega), hl]; omega
        · rw [hrev]
          have e : (done ++ [(r, zr)]).length = done.length + 1 := by simp
          have e2 : hesL F.P ⟨X, M, S, Q, D3.mi, A 9⟩ (⟨doOf tg r, r, zr, z, τ, wt x ct⟩ :: hs) ++ R = heL F.P ⟨X, M, S, Q, D3.mi, A 9⟩ ⟨doOf tg r, r, zr, z, τ, wt x ct⟩ ++ (hesL F.P ⟨X, M, S, Q, D3.mi, A 9⟩ hs ++ R) := by
            show (heL F.P _ _ ++ hesL F.P _ hs) ++ R = _
            rw [List.append_assoc]
          rw [e, e2]
          revert E
          cases q : doOf tg r with
          | out => exact absurd q ho
          | tag => exact id
          | plain => exact id
      · exact hx done todo r zr hs x s z hd hdue h (by omega) D n hn
end
end Mine
end
section
set_option maxRecDepth 100000
set_option maxHeartbeats 4000000
namespace Mine
open PySem PySem.W PySem.W.X
/-- what the end reads in the frame -/
structure ZOk (A : Nat → Nat) (due tab : Nat) (cnt : Int) (ct : Tok) (Z : Vals) : Prop where
  v2 : Z.v 2 = rf (A 12)
  v3 : Z.v 3 = rf (A 4)
  v16 : Z.v 16 = rf tab
  v17 : Z.v 17 = rf due
  v19 : Z.v 19 = .int cnt ct
noncomputable def ftD (told : Bool) (Z : Vals) (ct : Tok) : Nat → Tok := fun j => match j with
  | 60 => ct
  | j => match told, Nat.blt j 20 with | false, false => Z.t (j + 1) | _, _ => Z.t (j + 2)
noncomputable def fvD (A : Nat → Nat) (due tab : Nat) (D3 : Ad3) (cnt : Int) (ct : Tok) (Z x : Vals) : Nat → Value := fun j =>
  ([Z.v 0, Z.v 1, rf (A 12), rf (A 4), Z.v 4, Z.v 5, Z.v 6, Z.v 7, rf (A 7), Z.v 8, Z.v 9, x.v 10, x.v 11, x.v 12, Z.v 13, Z.v 14, x.v 15, rf D3.mi, rf tab, rf due, Z.v 18, rf D3.sc, .int cnt ct] : List Value).getD j .none
theorem fr3_eq {A : Nat → Nat} {due tab : Nat} {D3 : Ad3} {cnt : Int} {ct : Tok} {Z x : Vals} (h : ZOk A due tab cnt ct Z) (P : Params) (told : Bool) : fr3 P told Z (A3 A D3 0) x = frN P (ksD told) (ftD told Z ct) (fvD A due tab D3 cnt ct Z x) := by
  unfold fr3
  rw [h.v2, h.v3, h.v16, h.v17, h.v19]
  cases told <;> kernel_rfl
/-- the objects of the end, behind the frame -/
noncomputable def lD (P : Params) (tg : Bool) (X M S Q Z : Vals) (A : Nat → Nat) (d : Ad3) (x x' : Vals) (due tab : Nat) : List (Nat × Obj) :=
  [(A 4, lO #[rf (A 9), .ref (X.r 0)] 2), (d.q, inst 141 (d.qd + 417)), (d.qd, qD P Q (A 12) d.qn d.qo), (d.qo, lO (x.a 1) (x.n 101)), (A 9, inst 141 (A 10 + 417)), (A 10, pD P X (A 12) (A 11) (A 15)),
   (due, lO (x'.a 1) (x'.n 101)), (tab, dO (x'.e 0) (x'.n 0)), (d.mi, inst 223 (d.md + 417)), (d.md, mdD P tg M (rf d.mo)), (d.mo, dO (x.e 2) (x.n 2)),
   (A 12, inst 141 (A 13 + 417)), (A 13, rootD P X (x.i 0) (x.t 0) (A 14)), (A 14, dO (x.e 0) (x.n 0))]
section
variable {F : Fix} {K : Addr → Option Obj} {dr : Drawn} {os : OsState} {R : List (Nat × Obj)} {s : Shared} {z n : Nat} {κ : TK}
theorem phD1 {tg told : Bool} {X M S Q Z x x' : Vals} {A : Nat → Nat} {D3 : Ad3} {due tab m l : Nat} {cnt : Int} {ct : Tok} (hA : AllRuns F.kt) (hR : ∀ X, (kD1 told X).Run F.kt) (H : F.Ok) (HK : KOk F K) (hn : n ≤ 20) (hz : ZOk A due tab cnt ct Z)
    (c0 : AllStr (x.e 0)) (c2 : (x.e 0).size ≤ 60) (c1 : lookS (x.e 0) inhS = some (.int (x.i 1) (x.t 1))) (a1 : (x'.a 1).size ≤ 60) (hs : cnt + ((x'.a 1).size : Int) = x.i 1) (hm : x.i 1 ≤ 20000)
    (D : Hp K dr os s z (((D3.it, itEnd (Int.ofNat l)) :: (fx3 F.P tg told X M S Q Z A D3 m x).tail) ++ (lE F.P X A x' due tab ++ R)))
    (hk : ∀ s' J, Hp K dr os s' z ((A 1, frN F.P (ksD told) (ftD told Z ct) (fvD A due tab D3 cnt ct Z x)) :: lD F.P tg X M S Q Z A D3 x x' due tab ++ (J ++ R)) → Good F.M 20 none κ (lawT F.T 18 (A 1 + 417)) s') :
    Good F.M n none κ (lawT F.T 17 (A 1 + 417)) s := by
  let y : Vals := { v0 with t := fun j => match j with | 61 => x.t 1 | 94 => x.t 0 | j => ftD told Z ct j, v := fvD A due tab D3 cnt ct Z x, i := fun j => match j with | 0 => cnt | _ => x.i 0, a := fun _ => x'.a 1, n := fun j => match j with | 101 => x'.n 101 | _ => x.n 0, e := fun _ => x.e 0 }
  have D2 := Hp.pick2 24 _ D.assoc [2, 20, 13, 14, 15] [19, 11, 12, 17, 21, 22, 23, 7, 8, 18, 0, 1, 3, 4, 5, 6, 9, 10, 16] (by kernel_rfl) (by decide +kernel)
  let L0 : List (Nat × Obj) := ((D3.it, itEnd (Int.ofNat l)) :: (fx3 F.P tg told X M S Q Z A D3 m x).tail) ++ lE F.P X A x' due tab
  let R1 : List (Nat × Obj) := pk L0 [19, 11, 12, 17, 21, 22, 23, 7, 8, 18, 0, 1, 3, 4, 5, 6, 9, 10, 16]
  have D2' : Hp K dr os s z ((A 1, fr3 F.P told Z (A3 A D3 0) x) :: ((due, lO (x'.a 1) (x'.n 101)) :: (A 12, inst 141 (A 13 + 417)) :: (A 13, rootD F.P X (x.i 0) (x.t 0) (A 14)) :: (A 14, dO (x.e 0) (x.n 0)) :: (R1 ++ R))) := Eq.mp (by kernel_rfl) D2
  rw [fr3_eq hz] at D2'
  have hu : sumD y = x.i 1 := hs
  have D3' : Hp K dr os s z ([A 1, due, A 12, A 13, A 14].zip (insD1 told X F.P (adr [A 1, due, A 12, A 13, A 14] z) y) ++ (R1 ++ R)) := by cases told <;> exact Eq.mp (by kernel_rfl) D2'
  refine Seg.step_t (S := kD1 told X) [A 1, due, A 12, A 13, A 14] y rfl (hR X) H HK D3' rfl rfl rfl (Nat.le_of_ble_eq_true rfl) (by kernel_rfl)
    (fun τ K' O => uses_all (all_cons (len_use O _ _ _ a1) (all_cons (cmp_use hA.hkGt H O (Nat.le_of_ble_eq_true rfl) _ _ (vals [τ 2, 638] [] [sumD y, 20000] [] [] [] [] [] [] [] []) (Prod.ext (decide_eq_false (show ¬ (20000 : Int) < sumD y from Int.not_lt.mpr (by rw [hu]; exact hm))) rfl))
      (all_cons (ditem_use O _ _ _ _ _ c0 (by rw [hu]; exact c1)) (all_cons (len_use O _ _ _ a1) (all_cons (cmp_use hA.hkIne H O (Nat.le_of_ble_eq_true rfl) _ _ (vals [y.t 61, τ 7] [] [sumD y, sumD y] [] [] [] [] [] [] [] []) (Prod.ext (by show (!decide (sumD y = sumD y)) = false; simp) rfl)) all_nil))))))
    (fun _ => rfl) hn (fun s' τ E => ?_)
  have E2 := Hp.pick2 24 _ E.assoc [0, 5, 6, 7, 8, 9, 10, 1, 11, 12, 13, 14, 2, 3, 4] [15, 16, 17, 18, 19, 20, 21, 22, 23] (by kernel_rfl) (by decide +kernel)
  refine hk s' (pk (((kD1 told X).xs.map (adr [A 1, due, A 12, A 13, A 14] z)).zip ((kD1 told X).outs F.w.params (adr [A 1, due, A 12, A 13, A 14] z) τ y) ++ R1) [15, 16, 17, 18, 19, 20, 21, 22, 23]) ?_
  cases told <;> exact Eq.mp (by kernel_rfl) E2
end
end Mine
end
section
set_option maxRecDepth 100000
set_option maxHeartbeats 4000000
namespace Mine
open PySem PySem.W PySem.W.X
noncomputable def Her.T (h : Her) (j : Nat) : Nat := h.t (4 + (t0 h.d.tg h.r.gives + j))
noncomputable def Her.M (h : Her) (j : Nat) : Nat := h.N (b0 h.d.tg h.r.gives + j)
/-- its operation and its control -/
noncomputable def Her.op (h : Her) : Str := match h.d.tg with | true => h.r.op | false => .mk #[]
noncomputable def Her.ctl (h : Her) : Nat := match h.d.tg with | true => h.zr + 30 | false => h.M 10
/-- an inherited entity's letters -/
noncomputable def zH (l : Lt) (h : Her) : Vals :=
  let u (j : Nat) : Tok := h.T (eo h.d.tg h.r.both j)
  { v0 with
    t := fun j => ([u 101, u 103, u 105, u 107, u 109, u 111, u 114, u 117, u 119, u 122, u 124, u 126, u 128, u 130, u 132, u 134, u 136, 0, 0, 0, h.r.t 63, h.r.t 63, n7 l.X l.M h.r.gives, (match h.d.tg with | true => h.r.w 75 | false => h.T 21), 0, 0, 0, 0, 0, 0,
      h.T 7, h.T 9, h.T 11, h.T 13, h.T 15, h.T 17, h.T 20, h.T 23, h.T 25, h.T 27, h.T 29] : List Nat).getD j 0
    s := fun j => match j with | 2 => h.op | _ => nm h.r.k
    i := fun _ => in7 h.r.gives
    r := fun j => match j with | 0 => h.M (kx h.r.both 29) | _ => h.ctl
    v := fun j => ([.str (.mk #[115, 117, 98]) (u 89), rf (resA h.r (fun j => h.zr + j) h.M), .int 1 (l.S.t 11), .int (h.x.i 0 + 1) (h.t (4 + (tD h.d.tg h.r.has h.r.gives + 15))), .str (l.Q.s 0) (l.Q.t 9), .none, .none, .bool true, .bool true, .bool false, .bool true, .bool false,
      .none, .none, .none, .none, .none, .none, .none, .none, h.r.nv, rf (h.M 12), rf (resA h.r (fun j => h.zr + j) h.M), rf (h.M 7), rf (h.M 8), rf (h.M 9), .int 0 (h.T 18), .none, .none] : List Value).getD j .none }
noncomputable def hA5 (h : Her) : List Nat := [h.a, h.M (kx h.r.both 31), h.M (kx h.r.both 30), h.M 4, h.M 3]
noncomputable def he5 (P : Params) (l : Lt) (h : Her) : List (Nat × Obj) := (hA5 h).zip (heE P (zH l h) 0 l.p (fun j => (hA5 h).getD j 0))
noncomputable def heR (P : Params) (l : Lt) (h : Her) : List (Nat × Obj) := match h.d.tg, h.r.has, h.r.gives with
  | true, true, true => pk (heL P l h) [2, 3, 4, 5, 6, 7, 8, 9, 10, 11, 15]
  | true, true, false => pk (heL P l h) [2, 3, 4, 5, 6, 7, 8, 9, 13]
  | true, false, true => pk (heL P l h) [2, 3, 4, 5, 6, 7, 8, 9, 13]
  | true, false, false => pk (heL P l h) [2, 3, 4, 5, 6, 7, 11]
  | false, true, true => pk (heL P l h) [2, 3, 4, 5, 6, 7, 8, 9, 10, 11, 12, 16]
  | false, true, false => pk (heL P l h) [2, 3, 4, 5, 6, 7, 8, 9, 10, 14]
  | false, false, true => pk (heL P l h) [2, 3, 4, 5, 6, 7, 8, 9, 10, 14]
  | false, false, false => pk (heL P l h) [2, 3, 4, 5, 6, 7, 8, 12]
theorem he_perm (P : Params) (l : Lt) (h : Her) : (heL P l h).Perm (he5 P l h ++ heR P l h) := by
  have key : ∀ (n : Nat) (js js' : List Nat), (heL P l h).length = n → isPerm (js ++ js') n = true → pk (heL P l h) js = he5 P l h → pk (heL P l h) js' = heR P l h → (heL P l h).Perm (he5 P l h ++ heR P l h) := by
    intro n js js' hl hp e1 e2
    subst hl
    have := pk_perm hp
    unfold pk at this e1 e2
    rw [List.map_append, e1, e2] at this
    exact this
  obtain ⟨d, r, zr, zh, t, x⟩ := h
  obtain ⟨has, gives, way, k, rt, i⟩ := r
  cases d with
  | tag =>
    cases has <;> cases gives
    · exact key 12 [10, 9, 8, 1, 0] [2, 3, 4, 5, 6, 7, 11] (by kernel_rfl) (by decide +kernel) (by kernel_rfl) (by kernel_rfl)
    · exact key 14 [12, 11, 10, 1, 0] [2, 3, 4, 5, 6, 7, 8, 9, 13] (by kernel_rfl) (by decide +kernel) (by kernel_rfl) (by kernel_rfl)
    · exact key 14 [12, 11, 10, 1, 0] [2, 3, 4, 5, 6, 7, 8, 9, 13] (by kernel_rfl) (by decide +kernel) (by kernel_rfl) (by kernel_rfl)
    · exact key 16 [14, 13, 12, 1, 0] [2, 3, 4, 5, 6, 7, 8, 9, 10, 11, 15] (by kernel_rfl) (by decide +kernel) (by kernel_rfl) (by kernel_rfl)
  | out =>
    cases has <;> cases gives
    · exact key 12 [10, 9, 8, 1, 0] [2, 3, 4, 5, 6, 7, 11] (by kernel_rfl) (by decide +kernel) (by kernel_rfl) (by kernel_rfl)
    · exact key 14 [12, 11, 10, 1, 0] [2, 3, 4, 5, 6, 7, 8, 9, 13] (by kernel_rfl) (by decide +kernel) (by kernel_rfl) (by kernel_rfl)
    · exact key 14 [12, 11, 10, 1, 0] [2, 3, 4, 5, 6, 7, 8, 9, 13] (by kernel_rfl) (by decide +kernel) (by kernel_rfl) (by kernel_rfl)
    · exact key 16 [14, 13, 12, 1, 0] [2, 3, 4, 5, 6, 7, 8, 9, 10, 11, 15] (by kernel_rfl) (by decide +kernel) (by kernel_rfl) (by kernel_rfl)
  | plain =>
    cases has <;> cases gives
    · exact key 13 [11, 10, 9, 1, 0] [2, 3, 4, 5, 6, 7, 8, 12] (by kernel_rfl) (by decide +kernel) (by kernel_rfl) (by kernel_rfl)
    · exact key 15 [13, 12, 11, 1, 0] [2, 3, 4, 5, 6, 7, 8, 9, 10, 14] (by kernel_rfl) (by decide +kernel) (by kernel_rfl) (by kernel_rfl)
    · exact key 15 [13, 12, 11, 1, 0] [2, 3, 4, 5, 6, 7, 8, 9, 10, 14] (by kernel_rfl) (by decide +kernel) (by kernel_rfl) (by kernel_rfl)
    · exact key 17 [15, 14, 13, 1, 0] [2, 3, 4, 5, 6, 7, 8, 9, 10, 11, 12, 16] (by kernel_rfl) (by decide +kernel) (by kernel_rfl) (by kernel_rfl)
end Mine
end
section
set_option maxRecDepth 100000
set_option maxHeartbeats 4000000
namespace Mine
open PySem PySem.W PySem.W.X
noncomputable def heTs (l : Lt) (c : Tok) (z : Nat) : List Her → List (Nat × Obj)
  | [] => []
  | u :: us => (z, heT (zH l u) (.int 3 c)) :: heTs l c (z + 1) us
noncomputable def lD6 (P : Params) (X Q : Vals) (A : Nat → Nat) (d : Ad3) (order : Array Value) (e : Nat) : List (Nat × Obj) :=
  [(A 4, lO #[rf (A 9), rf d.q] 2), (d.q, inst 141 (d.qd + 417)), (d.qd, qD P Q (A 12) d.qn d.qo), (d.qo, lO order e), (A 9, inst 141 (A 10 + 417)), (A 10, pD P X (A 12) (A 11) (A 15))]
noncomputable def RD2 (told : Bool) (kt : Params → KT) : Prop := ∀ n, (told = false → n = 0) → (told = true → 1 ≤ n ∧ n ≤ 4) → ∀ z Y Q, (kD2 told n z Y Q).Run kt
section
variable {F : Fix} {K : Addr → Option Obj} {dr : Drawn} {os : OsState} {R : List (Nat × Obj)} {s : Shared} {z n : Nat} {κ : TK}
theorem phD2 {told : Bool} {X M S Q : Vals} {A : Nat → Nat} {d : Ad3} {mi e : Nat} {ft : Nat → Tok} {fv : Nat → Value} (us : List Her) (hR : RD2 told F.kt) (ht : told = false → us = []) (ht' : told = true → 1 ≤ us.length ∧ us.length ≤ 4) (hv3 : fv 3 = rf (A 4)) (H : F.Ok) (HK : KOk F K) (hn : n ≤ 20)
    (D : Hp K dr os s z ((A 1, frN F.P (ksD told) ft fv) :: lD6 F.P X Q A d (us.map fun u => rf u.a).toArray e ++ (us.flatMap (he5 F.P ⟨X, M, S, Q, mi, A 9⟩) ++ R)))
    (hk : ∀ s' c, Hp K dr os s' (z + 5 + us.length) ((A 1, frN F.P (ksD told ++ [23]) (fun j => match j with | 23 => c | j => ft j) (fun j => match j with | 23 => rf (z + 1) | j => fv j)) :: lD6 F.P X Q A d (us.map fun u => rf u.a).toArray e ++ (us.flatMap (he5 F.P ⟨X, M, S, Q, mi, A 9⟩) ++
      ((z + 1, lO ((List.range us.length).map fun j => rf (z + 3 + j)).toArray us.length) :: heTs ⟨X, M, S, Q, mi, A 9⟩ (X.t 105) (z + 3) us ++ R))) → Good F.M 20 none κ (lawT F.T 19 (A 1 + 417)) s') :
    Good F.M n none κ (lawT F.T 18 (A 1 + 417)) s := by
  let l : Lt := ⟨X, M, S, Q, mi, A 9⟩
  let zs (us : List Her) : Nat → Vals := fun j => (us.map (zH l)).getD j v0
  let as (us : List Her) : List Nat := [A 1, A 4, d.q, d.qd, d.qo, A 9, A 10] ++ us.flatMap hA5
  let y : Vals := { v0 with t := ft, v := fv, r := fun j => ([A 12, d.qn, A 12, A 11, A 15] : List Nat).getD j 0, n := fun _ => e }
  have D : Hp K dr os s z (((A 1, frN F.P (ksD told) ft (fun j => match j with | 3 => rf (A 4) | j => fv j)) :: lD6 F.P X Q A d (us.map fun u => rf u.a).toArray e ++ us.flatMap (he5 F.P ⟨X, M, S, Q, mi, A 9⟩)) ++ R) := by
    have e1 : frN F.P (ksD told) ft (fun j => match j with | 3 => rf (A 4) | j => fv j) = frN F.P (ksD told) ft fv := by rw [← hv3]; cases told <;> kernel_rfl
    rw [e1]; exact D.assoc
  have key : ∀ us : List Her, (kD2 told us.length (zs us) X Q).Run F.kt →
      Hp K dr os s z ((as us).zip ((kD2 told us.length (zs us) X Q).ins F.w.params (adr (as us) z) y) ++ R) →
      (as us).length = (kD2 told us.length (zs us) X Q).L → ((kD2 told us.length (zs us) X Q).ins F.w.params (adr (as us) z) y).length = (kD2 told us.length (zs us) X Q).L → (kD2 told us.length (zs us) X Q).L ≤ 1000 → xsOk (kD2 told us.length (zs us) X Q) = true →
      (∀ s' τ, Hp K dr os s' (z + (5 + us.length)) (((kD2 told us.length (zs us) X Q).xs.map (adr (as us) z)).zip ((kD2 told us.length (zs us) X Q).outs F.w.params (adr (as us) z) τ y) ++ R) → Good F.M 20 none κ (lawT F.T 19 (A 1 + 417)) s') →
      Good F.M n none κ (lawT F.T 18 (A 1 + 417)) s := by
    intro us run D h1 h2 h3 h4 hk
    exact Seg.step_t (S := kD2 told us.length (zs us) X Q) (as us) y rfl run H HK D rfl h1 h2 h3 h4 (fun τ K' O => uses_nil rfl) (fun _ => rfl) hn hk
  match us, ht, ht', D, hk with
  | [], ht, ht', D, hk =>
    cases told with
    | true => exact absurd (ht' rfl).1 (by decide)
    | false =>
      refine key [] (hR 0 (fun _ => rfl) (fun h => nomatch h) _ _ _) (Eq.mp (by kernel_rfl) D) (by kernel_rfl) (by kernel_rfl) (Nat.le_of_ble_eq_true (by kernel_rfl)) (by kernel_rfl) fun s' τ E => hk s' (τ 2) ?_
      have e1 : ∀ c, frN F.P (ksD false ++ [23]) (fun j => match j with | 23 => c | j => ft j) (fun j => match j with | 3 => rf (A 4) | 23 => rf (z + 1) | j => fv j) = frN F.P (ksD false ++ [23]) (fun j => match j with | 23 => c | j => ft j) (fun j => match j with | 23 => rf (z + 1) | j => fv j) := fun c => by rw [← hv3]; kernel_rfl
      rw [← e1]
      exact Eq.mp (by kernel_rfl) E
  | u :: us, ht, ht', D, hk =>
    cases told with
    | false => exact absurd (ht rfl) (by simp)
    | true =>
      have hl := (ht' rfl).2
      have e1 : ∀ c, frN F.P (ksD true ++ [23]) (fun j => match j with | 23 => c | j => ft j) (fun j => match j with | 3 => rf (A 4) | 23 => rf (z + 1) | j => fv j) = frN F.P (ksD true ++ [23]) (fun j => match j with | 23 => c | j => ft j) (fun j => match j with | 23 => rf (z + 1) | j => fv j) := fun c => by rw [← hv3]; kernel_rfl
      match us, hl, D, hk with
      | [], _, D, hk =>
        refine key [u] (hR 1 (fun h => nomatch h) (fun _ => by decide) _ _ _) (Eq.mp (by kernel_rfl) D) (by kernel_rfl) (by kernel_rfl) (Nat.le_of_ble_eq_true (by kernel_rfl)) (by kernel_rfl) fun s' τ E => hk s' (τ 15) ?_
        rw [← e1]
        exact Eq.mp (by kernel_rfl) E
      | [u2], _, D, hk =>
        refine key [u, u2] (hR 2 (fun h => nomatch h) (fun _ => by decide) _ _ _) (Eq.mp (by kernel_rfl) D) (by kernel_rfl) (by kernel_rfl) (Nat.le_of_ble_eq_true (by kernel_rfl)) (by kernel_rfl) fun s' τ E => hk s' (τ 28) ?_
        rw [← e1]
        exact Eq.mp (by kernel_rfl) E
      | [u2, u3], _, D, hk =>
        refine key [u, u2, u3] (hR 3 (fun h => nomatch h) (fun _ => by decide) _ _ _) (Eq.mp (by kernel_rfl) D) (by kernel_rfl) (by kernel_rfl) (Nat.le_of_ble_eq_true (by kernel_rfl)) (by kernel_rfl) fun s' τ E => hk s' (τ 41) ?_
        rw [← e1]
        exact Eq.mp (by kernel_rfl) E
      | [u2, u3, u4], _, D, hk =>
        refine key [u, u2, u3, u4] (hR 4 (fun h => nomatch h) (fun _ => by decide) _ _ _) (Eq.mp (by kernel_rfl) D) (by kernel_rfl) (by kernel_rfl) (Nat.le_of_ble_eq_true (by kernel_rfl)) (by kernel_rfl) fun s' τ E => hk s' (τ 54) ?_
        rw [← e1]
        exact Eq.mp (by kernel_rfl) E
      | u2 :: u3 :: u4 :: u5 :: us, hl, _, _ => exact absurd hl (by simp)
end
end Mine
end
section
set_option maxRecDepth 100000
set_option maxHeartbeats 4000000
namespace Mine
open PySem PySem.W PySem.W.X
noncomputable def kStr : Value → Str
  | .str x _ => x
  | _ => .mk #[]
noncomputable def kvOf (e : DictEntry) : Str × Value := (kStr e.key, e.val)
noncomputable def kxOf (e : DictEntry) : Str × Str := (kStr e.key, kStr e.val)
theorem ent_hash (w : World) (x : Str) (t : Tok) (v : Value) : (ent w.params x t v).hash = hashStr w x := rfl
theorem nodup_of {es : Array DictEntry} (h : DistS es) : ((es.toList.map kvOf).map (·.1)).Nodup := by
  rw [List.map_map]
  refine List.pairwise_iff_getElem.mpr fun i j hi hj hij => ?_
  simp only [List.length_map, Array.length_toList] at hi hj
  obtain ⟨x, t, h1, h2⟩ := h j hj
  simp only [List.getElem_map, Function.comp, Array.getElem_toList, kvOf, h1, kStr]
  intro e
  obtain ⟨y, u, g1, _⟩ := h i hi
  rw [g1] at e
  simp only at e
  have hsz : i < (es.extract 0 j).size := by simp; omega
  have := Array.findIdx?_eq_none_iff.mp h2 (es.extract 0 j)[i] (Array.getElem_mem hsz)
  simp only [Array.getElem_extract, Nat.zero_add] at this
  rw [g1, e, isStr_str] at this
  simp at this
theorem pairs_of {prog : Program} {w : World} : ∀ l : List DictEntry, (∀ e ∈ l, ∃ x t s u, e = ent w.params x t (.str s u)) → Pairs (strKind prog w) l (l.map kvOf)
  | [], _ => .nil
  | e :: l, h => by
    refine .cons ?_ rfl (pairs_of l fun e he => h e (List.mem_cons_of_mem _ he))
    obtain ⟨x, t, s, u, rfl⟩ := h e List.mem_cons_self
    exact strKind_is _ _ _ _
theorem hits_of {A : Around} {s : Shared} {kb : List (Str × Value)} : ∀ ka : List (Str × Value), (∀ kv ∈ ka, ∃ y, valueAt kb kv.1 = some y ∧ SeqAt.EqAt A s kv.2 y true) → KeqHits A s kb ka true
  | [], _ => .nil
  | (k, v) :: ka, h => by
    obtain ⟨y, h1, h2⟩ := h _ List.mem_cons_self
    exact KeqHits.hit h1 h2 (hits_of ka fun kv hm => h kv (List.mem_cons_of_mem _ hm))
theorem tabs_eq {prog : Program} {w : World} {A : Around} {E : Value → Shared → Prop} {s : Shared} {a b : Addr} {e1 e2 : Array DictEntry} {n1 n2 : Nat} {Q : Value → Shared → Prop} (hu : A.units < cLine)
    (ha : s.heap.get? a = some (dO e1 n1)) (hb : s.heap.get? b = some (dO e2 n2)) (d1 : DistS e1) (d2 : DistS e2) (v1 : StrVals w.params e1) (v2 : StrVals w.params e2) (he : e1.toList.map kxOf = e2.toList.map kxOf)
    (ha1 : (a == sysModules) = false) (hb1 : (b == sysModules) = false) (h : Q (.bool true) s) : wpAny (model prog w) A (compareOp .Eq (.ref a) (.ref b)) Q E s := by
  have keys : ∀ {es : Array DictEntry}, StrVals w.params es → KeysOf (strKind prog w) es := fun hv e hm => by
    obtain ⟨x, t, s, u, rfl⟩ := hv e (by simpa using hm)
    exact ⟨x, strKind_is _ _ _ _, rfl⟩
  have len : e1.toList.length = e2.toList.length := by have := congrArg List.length he; simpa using this
  refine keq_eq (knd := strKind prog w) (ka := e1.toList.map kvOf) (kb := e2.toList.map kvOf) (r := true) ha1 hb1 ⟨_, e1, n1, ha, ⟨rfl, rfl, rfl⟩, rfl, keys v1, pairs_of _ v1, nodup_of d1⟩ ⟨_, e2, n2, hb, ⟨rfl, rfl, rfl⟩, rfl, keys v2, pairs_of _ v2, nodup_of d2⟩ hu
    (fun _ => hits_of _ fun kv hm => ?_) ?_
  · obtain ⟨i, hi, rfl⟩ := List.mem_iff_getElem.mp hm
    simp only [List.length_map] at hi
    have hi2 : i < e2.toList.length := by omega
    have hx : kxOf e1.toList[i] = kxOf e2.toList[i] := by
      have : (e1.toList.map kxOf)[i]'(by simpa using hi) = (e2.toList.map kxOf)[i]'(by simpa using hi2) := by simp only [he]
      simpa using this
    obtain ⟨x, t, p, u, q1⟩ := v1 _ (List.getElem_mem hi)
    obtain ⟨x', t', p', u', q2⟩ := v2 _ (List.getElem_mem hi2)
    rw [q1, q2] at hx
    obtain ⟨hx1, hx2⟩ := Prod.mk.inj hx
    have hx1 : x = x' := hx1
    have hx2 : p = p' := hx2
    subst hx1; subst hx2
    refine ⟨.str p u', ?_, ?_⟩
    · simp only [List.getElem_map, q1]
      refine valueAt_of_get (nodup_of d2) (i := i) ?_
      rw [List.getElem?_map, List.getElem?_eq_getElem hi2, q2]
      rfl
    · simp only [List.getElem_map, q1]
      have := SeqAt.EqAt.str_str (A := A.in1) (s := s) p u p u'
      simpa [kvOf, ent] using this
  · rw [List.length_map, List.length_map, len]; simpa using h
/-! ### the two tables -/
theorem setL_kx {l m : List DictEntry} (h : l.map kxOf = m.map kxOf) (hl : ∀ e ∈ l, isExactStrKey e.key = true) (hm : ∀ e ∈ m, isExactStrKey e.key = true) (x s : Str) (t u : Tok) : (setL l x (.str s t)).map kxOf = (setL m x (.str s u)).map kxOf := by
  induction l generalizing m with
  | nil =>
    cases m with
    | nil => rfl
    | cons a m => simp at h
  | cons a l ih =>
    cases m with
    | nil => simp at h
    | cons b m =>
      simp only [List.map_cons, List.cons.injEq] at h
      obtain ⟨h1, h2⟩ := h
      obtain ⟨p1, p2⟩ := Prod.mk.inj h1
      have e : a.key.isStr x = b.key.isStr x := by
        have k1 := hl a List.mem_cons_self
        have k2 := hm b List.mem_cons_self
        obtain ⟨_, ka, _⟩ := a
        obtain ⟨_, kb, _⟩ := b
        cases ka <;> first | (cases k1; done) | skip
        cases kb <;> first | (cases k2; done) | skip
        simp only [kStr] at p1
        rw [isStr_str, isStr_str, p1]
      unfold setL
      rw [← e]
      cases a.key.isStr x with
      | true => simp only [List.map_cons, h2]; exact congrArg (· :: _) (Prod.ext p1 rfl)
      | false => simp only [List.map_cons, h1, ih h2 (fun e he => hl e (List.mem_cons_of_mem _ he)) (fun e he => hm e (List.mem_cons_of_mem _ he))]
theorem tab_facts {P : Params} {e : Array DictEntry} (h : AllStr e) (d : DistS e) (v : StrVals P e) (x s : Str) (u : Tok) : AllStr (setE e x (.str s u)) ∧ DistS (setE e x (.str s u)) ∧ StrVals P (setE e x (.str s u)) :=
  ⟨allS_setE h _ _, dist_setE d _ _, strVals_set v _ _ _⟩
theorem tabF_facts {P : Params} {e : Array DictEntry} (h : AllStr e) (d : DistS e) (v : StrVals P e) : ∀ ds : List Due, AllStr (tabF e ds) ∧ DistS (tabF e ds) ∧ StrVals P (tabF e ds)
  | [] => ⟨h, d, v⟩
  | u :: ds => by
    obtain ⟨h1, h2, h3⟩ := tabF_facts h d v ds
    unfold tabF
    split
    · exact tab_facts h1 h2 h3 _ _ _
    · exact ⟨h1, h2, h3⟩
theorem tabG_facts {P : Params} {e : Array DictEntry} (h : AllStr e) (d : DistS e) (v : StrVals P e) : ∀ hs : List Her, AllStr (tabG e hs) ∧ DistS (tabG e hs) ∧ StrVals P (tabG e hs)
  | [] => ⟨h, d, v⟩
  | u :: hs => by
    obtain ⟨h1, h2, h3⟩ := tabG_facts h d v hs
    unfold tabG
    split
    · exact tab_facts h1 h2 h3 _ _ _
    · exact ⟨h1, h2, h3⟩
theorem tabs_same {tg : Bool} {e : Array DictEntry} (h : AllStr e) : ∀ (hs : List Her) (ds : List Due), hs.map (fun u => (u.r, u.zr)) = ds.map (fun u => (u.r, u.zr)) → (∀ u ∈ hs, u.d = doOf tg u.r ∧ u.d ≠ .out) → (∀ u ∈ ds, u.d = doOf tg u.r ∧ u.d ≠ .out) →
    (tabG e hs).toList.map kxOf = (tabF e ds).toList.map kxOf
  | [], [], _, _, _ => rfl
  | [], _ :: _, e, _, _ => by simp at e
  | _ :: _, [], e, _, _ => by simp at e
  | u :: hs, v :: ds, e, k1, k2 => by
    simp only [List.map_cons, List.cons.injEq] at e
    obtain ⟨e1, e2⟩ := e
    obtain ⟨e3, _⟩ := Prod.mk.inj e1
    have ih := tabs_same (tg := tg) h hs ds e2 (fun u hu => k1 u (List.mem_cons_of_mem _ hu)) (fun u hu => k2 u (List.mem_cons_of_mem _ hu))
    obtain ⟨a1, a2⟩ := k1 u List.mem_cons_self
    obtain ⟨b1, b2⟩ := k2 v List.mem_cons_self
    have ed : u.d = v.d := by rw [a1, b1, e3]
    unfold tabG tabF
    rw [← ed, ← e3]
    cases hd : u.d with
    | out => exact absurd hd a2
    | plain => exact ih
    | tag =>
      cases hg : u.r.gives with
      | false => exact ih
      | true =>
        show (setE (tabG e hs) u.r.op _).toList.map kxOf = (setE (tabF e ds) u.r.op _).toList.map kxOf
        rw [setE_toList, setE_toList]
        exact setL_kx ih (allS_mem (tabG_ok h hs).1) (allS_mem (tabF_ok h ds).1) _ _ _ _
end Mine
end
section
set_option maxRecDepth 100000
set_option maxHeartbeats 4000000
namespace Mine
open PySem PySem.W PySem.W.X PyProof.Rows PySem.SeqAt
noncomputable def ctlD (way : Nat) : List PyData := match way with | 0 => [.int 0] | 1 => [.int 0] | _ => []
/-- what is said of a row, as data -/
noncomputable def rD (tg : Bool) (r : Row) : PyData := .tuple [.str (nm r.k), .tuple [.int (in7 r.has)], .int (in7 r.gives), .str (nm r.k), .int 3, .str (match tg with | true => r.op | false => .mk #[]), .list (match tg with | true => ctlD r.way | false => [])]
theorem rD_ok {tg : Bool} {r : Row} (hk : r.k ≤ 3) (hw : r.way = 0 ∨ r.way = 1 ∨ r.way = 2) : (rD tg r).canLay0 = true ∧ (rD tg r).depth ≤ 3 := by
  obtain ⟨has, gives, way, k, w, i⟩ := r
  simp only at hk hw
  have : k = 0 ∨ k = 1 ∨ k = 2 ∨ k = 3 := by omega
  rcases hw with rfl | rfl | rfl <;> rcases this with rfl | rfl | rfl | rfl <;> cases tg <;> cases has <;> cases gives <;> exact ⟨by kernel_rfl, Nat.le_of_ble_eq_true (by kernel_rfl)⟩
theorem list_ok {α : Type} (f : α → PyData) : ∀ l : List α, (∀ a ∈ l, (f a).canLay0 = true ∧ (f a).depth ≤ 3) → PyData.canLayAll0 (l.map f) = true ∧ PyData.depthAll (l.map f) ≤ 3
  | [], _ => ⟨rfl, Nat.zero_le _⟩
  | a :: l, h => by
    obtain ⟨h1, h2⟩ := h a List.mem_cons_self
    obtain ⟨h3, h4⟩ := list_ok f l fun b hb => h b (List.mem_cons_of_mem _ hb)
    refine ⟨?_, Nat.max_le.mpr ⟨h2, h4⟩⟩
    show (PyData.canLay0 (f a) && PyData.canLayAll0 (l.map f)) = true
    rw [h1, h3]; rfl
theorem shaped_list {α : Type} (f : α → PyData) (l : List α) (h : ∀ a ∈ l, (f a).canLay0 = true ∧ (f a).depth ≤ 3) : shaped (.list (l.map f)) = true := by
  obtain ⟨h1, h2⟩ := list_ok f l h
  refine Bool.and_eq_true_iff.mpr ⟨h1, decide_eq_true ?_⟩
  show PyData.depthAll (l.map f) + 1 ≤ 64
  omega
theorem row_reads {h : Heap} {a key ctl n : Nat} {k o : Str} {g hs : Int} {c : List PyData} {xs : Array Value} {t1 t2 t3 t4 t5 t6 : Tok}
    (h1 : h.get? (a + 417) = some (tO #[.str k t1, rf key, .int g t2, .str k t3, .int 3 t4, .str o t5, rf ctl])) (h2 : h.get? (key + 417) = some (tO #[.int hs t6])) (h3 : h.get? (ctl + 417) = some (lO xs n)) (h4 : ReadsAll h xs.toList c []) :
    ∃ as, Reads h (rf a) (.tuple [.str k, .tuple [.int hs], .int g, .str k, .int 3, .str o, .list c]) as :=
  ⟨_, reads_tuple_at h1 rfl rfl (.cons (.str _ _) (.cons (reads_tuple_at h2 rfl rfl (.cons (.int _ _) .nil)) (.cons (.int _ _) (.cons (.str _ _) (.cons (.int _ _) (.cons (.str _ _) (.cons (reads_list_at h3 rfl rfl h4) .nil)))))))⟩
theorem reads_ex {h : Heap} {α : Type} (f : α → Nat) (d : α → PyData) : ∀ l : List α, (∀ a ∈ l, ∃ as, Reads h (rf (f a)) (d a) as) → ∃ as, ReadsAll h (l.map fun a => rf (f a)) (l.map d) as
  | [], _ => ⟨_, .nil⟩
  | a :: l, hh => by
    obtain ⟨as, r⟩ := hh a List.mem_cons_self
    obtain ⟨bs, rs⟩ := reads_ex f d l fun b hb => hh b (List.mem_cons_of_mem _ hb)
    exact ⟨_, .cons r rs⟩
noncomputable def HasAll (s : Shared) (L : List (Nat × Obj)) : Prop := ∀ p ∈ L, s.heap.get? (p.1 + 417) = some p.2
theorem HasAll.nth {s : Shared} {L : List (Nat × Obj)} (h : HasAll s L) {i : Nat} {p : Nat × Obj} (e : L[i]? = some p) : s.heap.get? (p.1 + 417) = some p.2 := h p (List.mem_of_getElem? e)
theorem HasAll.mono {s : Shared} {L L' : List (Nat × Obj)} (h : HasAll s L) (k : ∀ p ∈ L', p ∈ L) : HasAll s L' := fun p hp => h p (k p hp)
theorem ctl_mem (P : Params) (X : Vals) (A : Nat → Nat) (q : Row × Nat) : (q.2 + 30, lO (match q.1.way with | 0 => #[.int 0 (q.1.t 135)] | 1 => #[.int 0 (q.1.t 136)] | _ => #[]) 0) ∈ rowL P X A q := by
  have : (rowL P X A q)[11]? = some (q.2 + 30, lO (match q.1.way with | 0 => #[.int 0 (q.1.t 135)] | 1 => #[.int 0 (q.1.t 136)] | _ => #[]) 0) := by kernel_rfl
  exact List.mem_of_getElem? this
theorem ctl_reads {h : Heap} {r : Row} (hw : r.way = 0 ∨ r.way = 1 ∨ r.way = 2) : ReadsAll h (match r.way with | 0 => #[.int 0 (r.t 135)] | 1 => #[.int 0 (r.t 136)] | _ => #[] : Array Value).toList (ctlD r.way) [] := by
  rcases hw with e | e | e <;> rw [e]
  · exact .cons (.int _ _) .nil
  · exact .cons (.int _ _) .nil
  · exact .nil
theorem due_reads {s : Shared} {P : Params} {X Y : Vals} {A : Nat → Nat} {tg : Bool} {u : Due} (hw : u.r.way = 0 ∨ u.r.way = 1 ∨ u.r.way = 2) (hd : u.d = doOf tg u.r) (ho : u.d ≠ .out) (g1 : HasAll s (dueL Y u)) (g2 : HasAll s (rowL P X A (u.r, u.zr))) :
    ∃ as, Reads s.heap (rf u.a) (rD tg u.r) as := by
  have ht : u.d.tg = tg := by rw [hd]; exact doOf_tg tg u.r
  have g3 := g2 _ (ctl_mem P X A (u.r, u.zr))
  obtain ⟨d, r, zr, zd, t⟩ := u
  cases d with
  | out => exact absurd rfl ho
  | tag =>
    subst ht
    cases hg : r.gives with
    | true =>
      have e : dueL Y ⟨.tag, r, zr, zd, t⟩ = [(zd + 3, tO #[.str r.op (r.w 75), rf (zr + 30)]), (zd + 4, tO #[.int (in7 r.has) (t 11)]), (zd + 6, tO #[.str (nm r.k) (r.t 63), rf (zd + 4), .int (in7 r.gives) (t 12), .str (nm r.k) (r.t 63), .int 3 (Y.t 105), .str r.op (r.w 75), rf (zr + 30)])] := by
        conv => { lhs; unfold dueL o2; rw [hg] }
        kernel_rfl
      rw [e] at g1
      exact row_reads (g1.nth (i := 2) rfl) (g1.nth (i := 1) rfl) g3 (ctl_reads hw)
    | false =>
      have e : dueL Y ⟨.tag, r, zr, zd, t⟩ = [(zd + 3, tO #[.str r.op (r.w 75), rf (zr + 30)]), (zd + 4, tO #[.int (in7 r.has) (t 10)]), (zd + 6, tO #[.str (nm r.k) (r.t 63), rf (zd + 4), .int (in7 r.gives) (t 11), .str (nm r.k) (r.t 63), .int 3 (Y.t 105), .str r.op (r.w 75), rf (zr + 30)])] := by
        conv => { lhs; unfold dueL o2; rw [hg] }
        kernel_rfl
      rw [e] at g1
      exact row_reads (g1.nth (i := 2) rfl) (g1.nth (i := 1) rfl) g3 (ctl_reads hw)
  | plain =>
    subst ht
    have e : dueL Y ⟨.plain, r, zr, zd, t⟩ = [(zd + 3, lO #[] 0), (zd + 4, tO #[.str (.mk #[]) (t 4), rf (zd + 3)]), (zd + 5, tO #[.int (in7 r.has) (t 7)]), (zd + 7, tO #[.str (nm r.k) (r.t 63), rf (zd + 5), .int (in7 r.gives) (t 8), .str (nm r.k) (r.t 63), .int 3 (Y.t 105), .str (.mk #[]) (t 4), rf (zd + 3)])] := by kernel_rfl
    rw [e] at g1
    exact row_reads (g1.nth (i := 3) rfl) (g1.nth (i := 2) rfl) (g1.nth (i := 0) rfl) .nil
theorem key_mem (P : Params) (l : Lt) (h : Her) (ho : h.d ≠ .out) : (h.M (kx h.r.both 29), tO #[.int (in7 h.r.has) (n7 l.X l.M h.r.has)]) ∈ heL P l h := by
  obtain ⟨d, r, zr, zh, t, x⟩ := h
  obtain ⟨has, gives, way, k, rt, i⟩ := r
  cases d with
  | out => exact absurd rfl ho
  | tag =>
    cases has <;> cases gives
    · exact List.mem_of_getElem? (i := 7) (by kernel_rfl)
    · exact List.mem_of_getElem? (i := 9) (by kernel_rfl)
    · exact List.mem_of_getElem? (i := 9) (by kernel_rfl)
    · exact List.mem_of_getElem? (i := 11) (by kernel_rfl)
  | plain =>
    cases has <;> cases gives
    · exact List.mem_of_getElem? (i := 8) (by kernel_rfl)
    · exact List.mem_of_getElem? (i := 10) (by kernel_rfl)
    · exact List.mem_of_getElem? (i := 10) (by kernel_rfl)
    · exact List.mem_of_getElem? (i := 12) (by kernel_rfl)
theorem nil_mem (P : Params) (l : Lt) (h : Her) (hd : h.d = .plain) : (h.M 10, lO #[] 0) ∈ heL P l h := by
  obtain ⟨d, r, zr, zh, t, x⟩ := h
  obtain ⟨has, gives, way, k, rt, i⟩ := r
  simp only at hd
  subst hd
  cases has <;> cases gives <;> exact List.mem_of_getElem? (i := 5) (by kernel_rfl)
theorem her_reads {s : Shared} {P : Params} {X : Vals} {A : Nat → Nat} {l : Lt} {tg : Bool} {u : Her} {c : Tok} {z : Nat} (hw : u.r.way = 0 ∨ u.r.way = 1 ∨ u.r.way = 2) (hd : u.d = doOf tg u.r) (ho : u.d ≠ .out) (g0 : s.heap.get? (z + 417) = some (heT (zH l u) (.int 3 c))) (g1 : HasAll s (heL P l u)) (g2 : HasAll s (rowL P X A (u.r, u.zr))) :
    ∃ as, Reads s.heap (rf z) (rD tg u.r) as := by
  have ht : u.d.tg = tg := by rw [hd]; exact doOf_tg tg u.r
  have g3 := g2 _ (ctl_mem P X A (u.r, u.zr))
  have g4 := g1 _ (key_mem P l u ho)
  have n4 := fun h => g1 _ (nil_mem P l u h)
  obtain ⟨d, r, zr, zh, t, x⟩ := u
  cases d with
  | out => exact absurd rfl ho
  | tag => subst ht; exact row_reads g0 g4 g3 (ctl_reads hw)
  | plain => subst ht; exact row_reads g0 g4 (n4 rfl) .nil
end Mine
end
section
set_option maxRecDepth 100000
set_option maxHeartbeats 4000000
namespace Mine
open PySem PySem.W PySem.W.X PyProof.Rows PySem.SeqAt
theorem perm_front {α : Type} (a b c : List α) : (a ++ (b ++ c)).Perm (b ++ (a ++ c)) := by
  rw [← List.append_assoc, ← List.append_assoc]
  exact List.perm_append_comm.append_right c
theorem flat_perm {α β : Type} {f g h : α → List β} (k : ∀ a, (f a).Perm (g a ++ h a)) : ∀ l : List α, (l.flatMap f).Perm (l.flatMap g ++ l.flatMap h)
  | [] => .nil
  | a :: l => by
    simp only [List.flatMap_cons]
    refine ((k a).append (flat_perm k l)).trans ?_
    rw [List.append_assoc, List.append_assoc]
    exact List.Perm.append_left _ (perm_front _ _ _)
theorem flat_rev {α β : Type} (f : α → List β) (l : List α) : (l.flatMap f).Perm (l.reverse.flatMap f) := (List.reverse_perm l).symm.flatMap_right f
theorem good_cmp2 {M : Model} {n : Nat} {κ : TK} {T : KT} {a : Addr} {s : Shared} {pos : Pos} {u v : Value} {r : Bool} (hn : n < 90)
    (hc : ∀ A : Around, A.units ≤ 14 + 10 * n → ∀ (Q : Value → Shared → Prop) (E : Value → Shared → Prop), Q (.bool r) s → wpAny M A (compareOp .Eq u v) Q E s)
    (h : Good M n none κ (eqF T a (.pure (.bool r))) s) : Good M n none κ (eqF T a (bnd (standAt pos) fun _ => operF [u, v] (compareR .Eq u v))) s := fun Γ p hΓ hW => by
  unfold eqF
  simp only [bnd_eq, onR_eq, operF_eq, Sem.wp_bind, Sem.wp_onRaise]
  show Sem.wp M Γ (Sem.at pos fun _ => .pure ()) _ _ p s
  rw [Sem.wp_at]
  show Sem.wp M Γ (operate [u, v] (compareR .Eq u v)) _ _ pos s
  rw [Sem.wp_operate]
  refine lr_compare rfl u v M n none Γ _ _ pos s hΓ hn ?_
  have hu : (aroundOf Γ).units ≤ 14 + 10 * n := by
    show Γ.units ≤ _
    have e : Γ.units = Γ.code.cUnits + unitsOf Γ.below := rfl
    have := cUnits_le Γ.code
    have := hΓ.units
    omega
  have w := hc (aroundOf Γ) hu (fun w s' => w = .bool r ∧ s' = s) (fun _ _ => False) ⟨rfl, rfl⟩ Γ pos (in_around Γ)
  refine Sem.wp_mono M Γ _ (fun w p' s' q => ?_) (fun _ _ _ q => q.elim) pos s w
  obtain ⟨rfl, rfl⟩ := q
  have h := h Γ p' hΓ hW
  unfold eqF at h
  simp only [bnd_eq, onR_eq, Sem.wp_bind, Sem.wp_onRaise] at h
  exact h
section
variable {F : Fix} {K : Addr → Option Obj} {dr : Drawn} {os : OsState} {L : List (Nat × Obj)} {s : Shared} {z n : Nat} {κ : TK}
theorem Hp.all (D : Hp K dr os s z L) : HasAll s L := fun p hp => (D.own p hp).2
theorem phD3 {told : Bool} {f due heard : Nat} {ft : Nat → Tok} {fv : Nat → Value} {d : PyData} (hR : (kD3 told).Run F.kt) (h19 : fv 19 = rf due) (h23 : fv 23 = rf heard) (hd : shaped d = true) (H : F.Ok) (HK : KOk F K) (hn : n ≤ 20)
    (r1 : ∀ s', HasAll s' L → ∃ as, Reads s'.heap (rf heard) d as) (r2 : ∀ s', HasAll s' L → ∃ as, Reads s'.heap (rf due) d as)
    (D : Hp K dr os s z ((f, frN F.P (ksD told ++ [23]) ft fv) :: L))
    (hk : ∀ s', Hp K dr os s' z ((f, frN F.P (ksD told ++ [23]) ft fv) :: L) → Good F.M 20 none κ (eqT2 F.T (f + 417)) s') : Good F.M n none κ (lawT F.T 19 (f + 417)) s := by
  let y : Vals := { v0 with t := ft, v := fv, r := fun j => match j with | 0 => due | _ => heard }
  have e1 : frN F.P (ksD told ++ [23]) ft fv = frN F.P (ksD told ++ [23]) y.t (fun j => match j with | 19 => rf (y.r 0) | 23 => rf (y.r 1) | j => y.v j) := by
    have : fv = (fun j => match j with | 19 => rf (y.r 0) | 23 => rf (y.r 1) | j => y.v j) := by
      funext j
      split
      · exact h19
      · exact h23
      · rfl
    exact congrArg (frN F.P (ksD told ++ [23]) ft) this
  rw [e1] at D
  refine Seg.step_t (S := kD3 told) [f] y rfl hR H HK D rfl rfl rfl (Nat.le_of_ble_eq_true rfl) (by cases told <;> kernel_rfl) (fun τ K' O => uses_nil rfl) (fun _ => rfl) hn (fun s' τ E => ?_)
  have E : Hp K dr os s' z ((f, frN F.P (ksD told ++ [23]) ft fv) :: L) := by rw [e1]; exact E
  have ha : HasAll s' L := E.all.mono fun p hp => List.mem_cons_of_mem _ hp
  obtain ⟨as, q1⟩ := r1 s' ha
  obtain ⟨bs, q2⟩ := r2 s' ha
  refine good_cmp (n := 20) (r := true) (by decide) (fun A hu Q E' hq => eq_dataH q1 q2 hd hd (by have : cLine = 9900 := rfl; omega) ?_) (hk s' E)
  rw [eqv_refl d (Bool.and_eq_true_iff.mp hd).1]; exact hq
theorem phD4 {told tg : Bool} {M : Vals} {f mi md mo tab n1 n2 : Nat} {ft : Nat → Tok} {fv : Nat → Value} {e1 e2 : Array DictEntry} (hR : ∀ X, (kD4 told tg X).Run F.kt) (h17 : fv 17 = rf mi) (h18 : fv 18 = rf tab) (H : F.Ok) (HK : KOk F K) (hn : n ≤ 20)
    (d1 : DistS e1) (d2 : DistS e2) (v1 : StrVals F.w.params e1) (v2 : StrVals F.w.params e2) (he : e1.toList.map kxOf = e2.toList.map kxOf)
    (D : Hp K dr os s z ((f, frN F.P (ksD told ++ [23]) ft fv) :: (mi, inst 223 (md + 417)) :: (md, mdD F.P tg M (rf mo)) :: (mo, dO e1 n1) :: (tab, dO e2 n2) :: L))
    (hk : ∀ s' L', Hp K dr os s' z L' → Post F.M κ (.ok (.ret (.bool true))) s') : Good F.M n none κ (eqT2 F.T (f + 417)) s := by
  let y : Vals := { v0 with t := ft, v := fv, r := fun j => match j with | 0 => tab | _ => mo }
  have q1 : frN F.P (ksD told ++ [23]) ft fv = frN F.P (ksD told ++ [23]) y.t (fun j => match j with | 17 => rf mi | 18 => rf (y.r 0) | j => y.v j) := by
    have : fv = (fun j => match j with | 17 => rf mi | 18 => rf (y.r 0) | j => y.v j) := by
      funext j
      split
      · exact h17
      · exact h18
      · rfl
    exact congrArg (frN F.P (ksD told ++ [23]) ft) this
  rw [q1] at D
  refine Seg.step_t (S := kD4 told tg M) [f, mi, md] y (l := [(f, frN F.P (ksD told ++ [23]) y.t (fun j => match j with | 17 => rf mi | 18 => rf (y.r 0) | j => y.v j)), (mi, inst 223 (md + 417)), (md, mdD F.P tg M (rf mo))]) (by cases told <;> kernel_rfl) (hR M) H HK D rfl rfl rfl (Nat.le_of_ble_eq_true rfl) (by cases told <;> kernel_rfl) (fun τ K' O => uses_nil rfl) (fun _ => rfl) hn (fun s' τ E => ?_)
  have g1 : s'.heap.get? (mo + 417) = some (dO e1 n1) := E.all (mo, dO e1 n1) (by simp)
  have g2 : s'.heap.get? (tab + 417) = some (dO e2 n2) := E.all (tab, dO e2 n2) (by simp)
  have ne : ∀ a : Nat, ((a + 417 : Nat) == sysModules) = false := fun a => by
    have : a + 417 ≠ 1 := by omega
    simpa [sysModules] using this
  exact good_cmp2 (n := 20) (r := true) (by decide) (fun A hu Q E' hq => tabs_eq (by have : cLine = 9900 := rfl; omega) g1 g2 d1 d2 v1 v2 he (ne _) (ne _) hq) (good_eqEnd (hk s' _ E))
theorem heTs_reads {P : Params} {X : Vals} {A : Nat → Nat} {l : Lt} {tg : Bool} {c : Tok} : ∀ (us : List Her) (z : Nat), HasAll s (heTs l c z us) → (∀ u ∈ us, (u.r.way = 0 ∨ u.r.way = 1 ∨ u.r.way = 2) ∧ u.d = doOf tg u.r ∧ u.d ≠ .out ∧ HasAll s (heL P l u) ∧ HasAll s (rowL P X A (u.r, u.zr))) →
    ∃ as, ReadsAll s.heap ((List.range' z us.length).map rf) (us.map fun u => rD tg u.r) as
  | [], _, _, _ => ⟨_, .nil⟩
  | u :: us, z, h, k => by
    obtain ⟨k1, k2, k3, k4, k5⟩ := k u List.mem_cons_self
    obtain ⟨as, q⟩ := her_reads (z := z) k1 k2 k3 (h _ List.mem_cons_self) k4 k5
    obtain ⟨bs, qs⟩ := heTs_reads us (z + 1) (h.mono fun p hp => List.mem_cons_of_mem _ hp) fun u hu => k u (List.mem_cons_of_mem _ hu)
    exact ⟨_, .cons q qs⟩
/-- the end of the law -/
theorem phD {tg told : Bool} {X M S Q Z x x2 : Vals} {A : Nat → Nat} {D3 : Ad3} {due tab : Nat} {cnt : Int} {ct : Tok} {l : Rows} {hs : List Her} {ds : List Due} {e0 : Array DictEntry} {R : List (Nat × Obj)} (hA : AllRuns F.kt) (h1 : ∀ X, (kD1 told X).Run F.kt) (h2 : RD2 told F.kt) (h3 : (kD3 told).Run F.kt) (h4 : ∀ X, (kD4 told tg X).Run F.kt) (H : F.Ok) (HK : KOk F K) (hn : n ≤ 20)
    (hz : ZOk A due tab cnt ct Z) (hq : X.r 0 = D3.q + 417) (ht : told = latD ds) (hl : l.length ≤ 4) (hw : ∀ q ∈ l, q.1.k ≤ 3 ∧ (q.1.way = 0 ∨ q.1.way = 1 ∨ q.1.way = 2))
    (p0 : AllStr e0) (pd : DistS e0) (pv : StrVals F.w.params e0) (i2 : I2 tg e0 l ds x2) (i3 : I3 tg e0 cnt l [] hs x)
    (D : Hp K dr os s z ((D3.it, itEnd (Int.ofNat l.length)) :: (fx3 F.P tg told X M S Q Z A D3 l.length x).tail ++ (rowsL F.P X A l.reverse ++ (hesL F.P ⟨X, M, S, Q, D3.mi, A 9⟩ hs ++ (lE F.P X A x2 due tab ++ (duesL X ds ++ R))))))
    (hk : ∀ s' z' L', Hp K dr os s' z' L' → Post F.M κ (.ok (.ret (.bool true))) s') : Good F.M n none κ (lawT F.T 17 (A 1 + 417)) s := by
  let lt : Lt := ⟨X, M, S, Q, D3.mi, A 9⟩
  have pe : hs.map (fun u => (u.r, u.zr)) = ds.map (fun u => (u.r, u.zr)) := by
    have := i3.rows.trans i2.rows.symm
    rw [List.map_reverse, List.map_reverse] at this
    exact List.reverse_inj.mp this
  have le : hs.length = ds.length := by simpa using congrArg List.length pe
  have dl : (x2.a 1).size = ds.length := by rw [i2.due]; simp
  have hl4 : hs.length ≤ 4 := Nat.le_trans i3.len hl
  have D := D.perm ((perm_front (rowsL F.P X A l.reverse) _ _).append_left _ |>.trans ((((perm_front (rowsL F.P X A l.reverse) (lE F.P X A x2 due tab) (duesL X ds ++ R)).append_left (hesL F.P lt hs)).trans (perm_front _ _ _)).append_left _))
  refine phD1 hA h1 H HK hn hz i3.c0 i3.c2 i3.c1 (by omega) (by rw [dl, i3.c4, le]) i3.c5 D fun s1 J E => ?_
  let us := hs.reverse
  have hq' : Value.ref (X.r 0) = rf D3.q := by rw [hq]; rfl
  let lD8 : List (Nat × Obj) := [(due, lO (x2.a 1) (x2.n 101)), (tab, dO (x2.e 0) (x2.n 0)), (D3.mi, inst 223 (D3.md + 417)), (D3.md, mdD F.P tg M (rf D3.mo)), (D3.mo, dO (x.e 2) (x.n 2)), (A 12, inst 141 (A 13 + 417)), (A 13, rootD F.P X (x.i 0) (x.t 0) (A 14)), (A 14, dO (x.e 0) (x.n 0))]
  let W : List (Nat × Obj) := rowsL F.P X A l.reverse ++ (duesL X ds ++ R)
  let fr : Nat × Obj := (A 1, frN F.P (ksD told) (ftD told Z ct) (fvD A due tab D3 cnt ct Z x))
  let d6 : List (Nat × Obj) := lD6 F.P X Q A D3 (us.map fun u => rf u.a).toArray (x.n 101)
  have eD : lD F.P tg X M S Q Z A D3 x x2 due tab = d6 ++ lD8 := by
    show [(A 4, lO #[rf (A 9), .ref (X.r 0)] 2), _, _, (D3.qo, lO (x.a 1) (x.n 101)), _, _, _, _, _, _, _, _, _, _] = _
    rw [hq', i3.order]
    rfl
  rw [eD] at E
  have E : Hp K dr os s1 z ((fr :: d6) ++ (lD8 ++ (J ++ (hesL F.P lt hs ++ W)))) := by
    have e : (fr :: (d6 ++ lD8)) ++ (J ++ (hesL F.P lt hs ++ W)) = (fr :: d6) ++ (lD8 ++ (J ++ (hesL F.P lt hs ++ W))) := by simp
    rw [← e]; exact E
  have E := E.perm ((((perm_front J _ W).append_left lD8).trans (perm_front _ _ _)).append_left _)
  have ph : (hesL F.P lt hs).Perm (us.flatMap (he5 F.P lt) ++ us.flatMap (heR F.P lt)) := (flat_rev _ hs).trans (flat_perm (he_perm F.P lt) us)
  have E := E.perm ((ph.append_right _).append_left _)
  rw [List.append_assoc] at E
  have hul : us.length = hs.length := List.length_reverse
  refine phD2 (us := us) (R := us.flatMap (heR F.P lt) ++ (lD8 ++ (J ++ W))) h2 (fun e => ?_) (fun e => ?_) rfl H HK (Nat.le_refl 20) E fun s2 c G => ?_
  · rw [ht] at e
    cases hd : ds with
    | nil => rw [hd] at le; exact List.eq_nil_of_length_eq_zero (by rw [hul, le]; rfl)
    | cons a b => rw [hd] at e; cases e
  · rw [ht] at e
    rw [hul]
    refine ⟨?_, hl4⟩
    cases hd : ds with
    | nil => rw [hd] at e; cases e
    | cons a b => rw [hd] at le; rw [le]; simp
  let H9 : List (Nat × Obj) := (z + 1, lO ((List.range us.length).map fun j => rf (z + 3 + j)).toArray us.length) :: heTs lt (X.t 105) (z + 3) us
  let L : List (Nat × Obj) := d6 ++ (us.flatMap (he5 F.P lt) ++ (H9 ++ (us.flatMap (heR F.P lt) ++ (lD8 ++ (J ++ W)))))
  have inHe : ∀ u ∈ us, ∀ p ∈ heL F.P lt u, p ∈ L := fun u hu p hp => by
    rcases List.mem_append.mp ((he_perm F.P lt u).mem_iff.mp hp) with h | h
    · exact List.mem_append_right _ (List.mem_append_left _ (List.mem_flatMap.mpr ⟨u, hu, h⟩))
    · exact List.mem_append_right _ (List.mem_append_right _ (List.mem_append_right _ (List.mem_append_left _ (List.mem_flatMap.mpr ⟨u, hu, h⟩))))
  have inW : ∀ p ∈ W, p ∈ L := fun p hp => List.mem_append_right _ (List.mem_append_right _ (List.mem_append_right _ (List.mem_append_right _ (List.mem_append_right _ (List.mem_append_right _ hp)))))
  have in8 : ∀ p ∈ lD8, p ∈ L := fun p hp => List.mem_append_right _ (List.mem_append_right _ (List.mem_append_right _ (List.mem_append_right _ (List.mem_append_left _ hp))))
  have in9 : ∀ p ∈ H9, p ∈ L := fun p hp => List.mem_append_right _ (List.mem_append_right _ (List.mem_append_left _ hp))
  have inRow : ∀ q ∈ l, ∀ p ∈ rowL F.P X A q, p ∈ L := fun q hq p hp => inW p (List.mem_append_left _ (List.mem_flatMap.mpr ⟨q, by simpa using hq, hp⟩))
  have inDue : ∀ u ∈ ds, ∀ p ∈ dueL X u, p ∈ L := fun u hu p hp => inW p (List.mem_append_right _ (List.mem_append_left _ (List.mem_flatMap.mpr ⟨u, hu, hp⟩)))
  have ul : ∀ u ∈ us, (u.r, u.zr) ∈ l := fun u hu => by
    have : (u.r, u.zr) ∈ us.map (fun u => (u.r, u.zr)) := List.mem_map.mpr ⟨u, hu, rfl⟩
    rw [i3.rows] at this
    exact (List.mem_filter.mp this).1
  have dL : ∀ u ∈ ds.reverse, (u.r, u.zr) ∈ l := fun u hu => by
    have : (u.r, u.zr) ∈ ds.reverse.map (fun u => (u.r, u.zr)) := List.mem_map.mpr ⟨u, hu, rfl⟩
    rw [i2.rows] at this
    exact (List.mem_filter.mp this).1
  have edata : (us.map fun u => rD tg u.r) = ds.reverse.map fun u => rD tg u.r := by
    have := i3.rows.trans i2.rows.symm
    have := congrArg (List.map fun p : Row × Nat => rD tg p.1) this
    rw [List.map_map, List.map_map] at this
    exact this
  refine phD3 (told := told) (d := .list (us.map fun u => rD tg u.r)) (due := due) (heard := z + 1) (L := L) h3 rfl rfl (shaped_list _ _ fun u hu => rD_ok (hw _ (ul u hu)).1 (hw _ (ul u hu)).2) H HK (Nat.le_refl 20) (fun s' ha => ?_) (fun s' ha => ?_) G fun s3 G => ?_
  · obtain ⟨as, q⟩ := heTs_reads (s := s') (P := F.P) (X := X) (A := A) (l := lt) (tg := tg) (c := X.t 105) us (z + 3) (fun p hp => ha p (in9 p (List.mem_cons_of_mem _ hp)))
      fun u hu => ⟨(hw _ (ul u hu)).2, (i3.kinds u (by simpa [us] using hu)).1, (i3.kinds u (by simpa [us] using hu)).2, fun p hp => ha p (inHe u hu p hp), fun p hp => ha p (inRow _ (ul u hu) p hp)⟩
    refine ⟨_, reads_list_at (ha (z + 1, _) (in9 _ List.mem_cons_self)) rfl rfl (as := as) ?_⟩
    have e : ((List.range us.length).map fun j => rf (z + 3 + j)).toArray.toList = (List.range' (z + 3) us.length).map rf := by
      rw [List.range'_eq_map_range, List.map_map]; rfl
    rw [e]; exact q
  · rw [edata]
    obtain ⟨as, q⟩ := reads_ex (h := s'.heap) Due.a (fun u : Due => rD tg u.r) ds.reverse fun u hu =>
      due_reads (P := F.P) (X := X) (Y := X) (A := A) (hw _ (dL u hu)).2 (i2.kinds u (by simpa using hu)).1 (i2.kinds u (by simpa using hu)).2 (fun p hp => ha p (inDue u (by simpa using hu) p hp)) (fun p hp => ha p (inRow _ (dL u hu) p hp))
    refine ⟨_, reads_list_at (ha (due, _) (in8 _ List.mem_cons_self)) rfl rfl (as := as) ?_⟩
    rw [i2.due]; exact q
  · have G := G.perm (((((((perm_front (us.flatMap (heR F.P lt)) lD8 (J ++ W)).append_left H9).trans (perm_front _ _ _)).append_left (us.flatMap (he5 F.P lt))).trans (perm_front _ _ _)).append_left d6).trans (perm_front _ _ _) |>.append_left [_])
    have G := Hp.pick2 9 (_ :: lD8) G [0, 3, 4, 5, 2] [1, 6, 7, 8] rfl (by decide +kernel)
    have same := tabs_same (tg := tg) p0 hs ds pe i3.kinds i2.kinds
    obtain ⟨a1, a2, a3⟩ := tabG_facts p0 pd pv hs
    obtain ⟨b1, b2, b3⟩ := tabF_facts p0 pd pv ds
    refine phD4 (told := told) (tg := tg) (M := M) (mi := D3.mi) (md := D3.md) (mo := D3.mo) (tab := tab) (e1 := x.e 2) (e2 := x2.e 0) h4 rfl rfl H HK (Nat.le_refl 20) ?_ ?_ ?_ ?_ ?_ G (fun s' L' => hk s' _ L')
    · rw [i3.ops]; exact a2
    · rw [i2.tab]; exact b2
    · rw [i3.ops]; exact a3
    · rw [i2.tab]; exact b3
    · rw [i3.ops, i2.tab]; exact same
end
end Mine
end
section
set_option maxRecDepth 100000
namespace Mine
open PySem PySem.W PySem.W.X PyProof.Rows
noncomputable def slO (t : Tok) : Obj := ⟨.type "slice", none, .fields #[.none, .int 20 t, .none], #[]⟩
theorem slicePick20 (items : Array Value) : slicePick items none (some 20) none = (items.toList.take 20).toArray := by
  by_cases h : 20 ≤ items.size
  · exact slicePick_upto items 20 h
  · have e : slicePick items none (some 20) none = slicePick items none (some (items.size : Int)) none := by
      have hb : sliceBounds none (some 20) none items.size = sliceBounds none (some (items.size : Int)) none items.size := by
        unfold sliceBounds
        simp
        omega
      unfold slicePick
      rw [hb]
    rw [e, slicePick_upto items items.size (Nat.le_refl _)]
    have h1 : items.toList.take items.size = items.toList := List.take_of_length_le (by simp)
    have h2 : items.toList.take 20 = items.toList := List.take_of_length_le (by simp; omega)
    rw [h1, h2]
noncomputable def sliceUse (σ : Nat → Nat) (m i j : Nat) (t : Tok) (ys : Array Value) : Use :=
  ⟨.call (.builtin "list.__getitem__") ⟨[.ref 416, .ref (σ j + 417)], []⟩, m, i, [(j, slO t)], .ok (.ret (.ref (σ m + 417))), [(m, lO ys 0)], 1, 0⟩
section
variable {F : Fix} {σ τ : Nat → Nat} {lim : Nat} {us : List Use} {K : Addr → Option Obj} {dr : Drawn} {os : OsState} {m₀ i₀ : Nat}
theorem slice_use (O : VOk (F.vc σ τ lim us K dr os m₀ i₀)) (m i j : Nat) (t : Tok) {xs ys : Array Value} (h416 : (F.kt F.w.params).get 416 = some (lO xs 0)) (hy : (xs.toList.take 20).toArray = ys) (hz : xs.size ≤ 64) : UseOk (F.vc σ τ lim us K dr os m₀ i₀) (sliceUse σ m i j t ys) := fun hidx s R D hins n' κ _ hk =>
  goodC_of_any fun A _ _ => by
    have hm : m < 65536 := idxOk_head hidx
    have eo : R.get j = some (slO t) := hins _ List.mem_cons_self
    have hos : s.heap.get? (σ j + 417) = some (slO t) := (D.own j _ eo).2
    have ho : s.heap.get? 416 = some (lO xs 0) := D.old O h416
    have hT : s.TypeIs (.ref 416) "list" := ⟨_, ho, rfl⟩
    have hTs : s.TypeIs (.ref (σ j + 417)) "slice" := ⟨_, hos, rfl⟩
    refine codeAny_call_builtin slot_list_getitem.plain entry_list_getitem (slot_list_getitem.check _ _ _ _ _ _ _ _ hT (args_list_getitem _ _) ?_)
    show wpAny _ _ (Builtin.List.listSubscript? (.ref (σ j + 417)) >>= _) _ _ s
    refine wpAny_bind ?_
    · unfold Builtin.List.listSubscript?
      refine wpAny_bind (wpAny_specialOf hTs slice_no_index ?_)
      simp only [Option.isNone_none, if_true]
      refine wpAny_pure ?_
      show wpAny _ _ (typeOf (.ref (σ j + 417)) >>= _) _ _ s
      refine wpAny_bind (wpAny_typeOf hTs ?_)
      rw [if_neg (by decide)]
      rw [listSliceParts_eq]
      refine wpAny_bind (wpAny_bind (wpAny_field hos rfl (x := Value.none) rfl (wpAny_bind (wpAny_listPart (k := none) .none ?_))))
      rw [if_neg (by exact Bool.false_ne_true)]
      refine wpAny_bind (wpAny_field hos rfl (x := Value.none) rfl (wpAny_bind (wpAny_listPart (k := none) .none ?_)))
      refine wpAny_bind (wpAny_field hos rfl (x := Value.int 20 t) rfl (wpAny_bind (wpAny_listPart (k := some 20) (.int _ _) (wpAny_pure ?_))))
      refine wpAny_bind (m := Builtin.List.listItems (.ref 416)) ?_
      · unfold Builtin.List.listItems
        refine wpAny_bind (wpAny_seqItems ho rfl (wpAny_pure ?_))
        refine wpAny_bind (wpAny_of_eq (sliceIndices_raw none (some 20) none xs.size (by decide)) ?_)
        refine wpAny_bind (wpAny_newObj_type (wpAny_pure ?_) (Nat.le_trans (slicePick_size_le xs none (some 20) none) (Nat.le_trans hz (by decide))))
        have es : s.heap.objs.size = σ m + 417 := D.size
        have ey : slicePick xs none (some 20) none = ys := by rw [slicePick20]; exact hy
        subst ey
        have z := hk _ (D.alloc O (o := lO (slicePick xs none (some 20) none) 0) rfl hm)
        have er : (sliceUse σ m i j t (slicePick xs none (some 20) none)).r = .ok (.ret (.ref s.heap.objs.size)) := by
          show Except.ok (Flow.ret (Value.ref (σ m + 417))) = _
          rw [es]
        rw [er] at z
        exact z
end
end Mine
end
section
set_option maxRecDepth 100000
set_option maxHeartbeats 4000000
namespace Mine
open PySem PySem.W PySem.W.X
noncomputable def sA00c (c : Bool) (n : Nat) : List Nat := [1, 0, 0, 0, 1, 4, 4, 0, 4, 5, 0] ++ (match c with | false => [5, 5, 0, 5, 5] | true => []) ++ [5, 0, 5, 5, 5, 4, 5, 5] ++ ((List.range n).flatMap fun _ => [7, 7, 7, 0, 0, 0, 6, 6, 6, 6, 5, 0, 5, 5, 5, 4, 5, 5]) ++ [9] ++ (match n with | 0 => [7] | _ => [7, 7, 7]) ++ [0, 2, 2, 2, 2, 0, 2, 2, 2, 2, 1, 1]
noncomputable def frA (P : Params) (t : Nat → Tok) : Obj := ⟨.type "frame", none, .dict #[ent P (.mk #[115, 99, 114, 105, 112, 116]) (t 0) (.ref 416)] 1, #[]⟩
noncomputable def kA00 : Seg := ⟨0, fun P T σ x => .code (.call (.ref 415) ⟨[.ref 416], []⟩), fun _ _ _ => [], [0], fun P σ τ x => [frA P τ], fun P T σ τ x => .tree (.pure (.again (.func (lawBody T) (lawEnv T (σ 0 + 417))))), 1, 1, 20, 40, fun _ => 7, fun _ => [0, 1, 1], fun _ _ _ _ _ => []⟩
noncomputable def cellsA (n : Nat) (x : Vals) : Array Value := ((List.range n).map fun j => Value.int (x.i j) (x.t (1 + j))).toArray
noncomputable def cellsO (n : Nat) (τ : Nat → Nat) (x : Vals) : Array Value := ((List.range n).map fun j => Value.int ((x.i j).fmod 1000000000) (τ (6 + 5 * j))).toArray
noncomputable def kA01 (n : Nat) : Seg := ⟨1, fun P T σ x => .tree (funcR (lawBody T) (lawEnv T (σ 0 + 417))), fun P σ x => [frA P x.t], [0, 1, 5],
  fun P σ τ x => [⟨.type "frame", none, .dict #[ent P (.mk #[115, 99, 114, 105, 112, 116]) (x.t 0) (.ref 416), ent P (.mk #[115, 97, 110, 100]) (τ (6 + 5 * n)) (.ref (σ 1 + 417))] 2, #[]⟩,
    dO #[ent P (.mk #[99, 101, 108, 108, 115]) (τ 0) (.ref (σ 5 + 417)), ent P (.mk #[115, 112, 111, 116]) (τ (2 + 5 * n)) (.int (0) (τ (3 + 5 * n)))] 2,
    lO (cellsO n τ x) n],
  fun P T σ τ x => .tree (lawT T 1 (σ 0 + 417)), 8, 7 + 5 * n, 20, 40, fun c => match n, c with | 0, false => 93 | 0, true => 83 | n, false => 97 + 40 * n | n, true => 87 + 40 * n, fun c => sA00c c n,
  fun P T σ τ x => [sliceUse σ 3 2 2 (τ 1) (cellsA n x)]⟩
end Mine
end
section
set_option maxRecDepth 100000
set_option maxHeartbeats 4000000
namespace Mine
open PySem PySem.W PySem.W.X PyProof.Rows
/-- a function's code, as its tree; its code is kept in mind -/
theorem good_func {prog : Program} {w : World} {n : Nat} {W : Ctx → Prop} {P : Result → Shared → Prop} {body : List Stmt} {env : Env} {s : Shared} (hn : n < 90)
    (h : Good (model prog w) n none (.base (fun Γ => W Γ ∧ Γ.code = .func body env) P) (funcR body env) s) : GoodC (model prog w) n none (.base W P) (.func body env) s := fun Γ p o w hc => by
  rw [wpCode_iff_wp, hc]
  exact rl_func body env (model prog _) n none Γ _ _ p s o hn (h Γ p o ⟨w, hc⟩)
noncomputable def tokOf : Value → Tok
  | .int _ t => t
  | _ => 0
theorem take_cells {vals : List Value} {ns : List Int} (h : IntsAre vals ns) (x : Vals) (hi : ∀ j, x.i j = ns.getD j 0) (ht : ∀ j, x.t (1 + j) = tokOf (vals.getD j .none)) : (vals.toArray.toList.take 20).toArray = cellsA (min 20 vals.length) x := by
  unfold cellsA
  congr 1
  apply List.ext_getElem?
  intro j
  by_cases hj : j < min 20 vals.length
  · have hl : j < vals.length := by omega
    have hln : j < ns.length := by rw [← h.length]; exact hl
    obtain ⟨t, e⟩ := h.get j (ns[j]) (List.getElem?_eq_getElem hln)
    rw [List.getElem?_take, if_pos (by omega)]
    rw [List.getElem?_map, List.getElem?_range hj]
    show vals[j]? = some (Value.int (x.i j) (x.t (1 + j)))
    rw [hi, ht, e]
    have e1 : ns.getD j 0 = ns[j] := by simp [hln]
    have e2 : vals.getD j .none = .int ns[j] t := by rw [List.getD_eq_getElem?_getD, e]; rfl
    rw [e1, e2]; rfl
  · rw [List.getElem?_eq_none (by simp; omega), List.getElem?_eq_none (by simp; omega)]
theorem cellsO_ok {n : Nat} (hn : n ≤ 20) (τ : Nat → Nat) (x : Vals) : CellsOk (cellsO n τ x) := by
  refine ⟨by simp [cellsO]; exact hn, fun j hj => ?_⟩
  have hj : j < n := by simpa [cellsO] using hj
  refine ⟨(x.i j).fmod 1000000000, τ (6 + 5 * j), ?_⟩
  simp [cellsO, hj]
section
variable {F : Fix} {K : Addr → Option Obj} {dr : Drawn} {os : OsState} {s : Shared} {n : Nat} {W : Ctx → Prop} {P : Result → Shared → Prop}
theorem phA0 {vals : List Value} {ns : List Int} (hI : (TK.base W P).Inv) (h416 : (F.kt F.w.params).get 416 = some (lO vals.toArray 0)) (hv : IntsAre vals ns) (hl : ns.length ≤ 63) (hR0 : kA00.Run F.kt) (hR1 : ∀ m, m ≤ 20 → (kA01 m).Run F.kt) (H : F.Ok) (HK : KOk F K) (hn : n ≤ 20)
    (D : Hp K dr os s 0 []) (hk : ∀ s' y, CellsOk (y.a 0) → Hp K dr os s' 9 ([0, 1, 5].zip (insA F.P (adr [0, 1, 5] 9) y) ++ []) → Good F.M 20 none (.base (fun Γ => W Γ ∧ Γ.code = .func (lawBody F.T) (lawEnv F.T (0 + 417))) P) (lawT F.T 1 (0 + 417)) s') :
    GoodC F.M n none (.base W P) (.call (.ref 415) ⟨[.ref 416], []⟩) s := by
  refine Seg.step_c (S := kA00) [] v0 rfl hR0 H HK (rest := []) D rfl rfl rfl (Nat.le_of_ble_eq_true rfl) (by kernel_rfl) (fun τ K' O => uses_nil rfl) (fun _ => rfl) hI hn (fun s1 τ1 E => ?_)
  refine good_again hI rfl (good_func (by decide) ?_)
  let m := min 20 vals.length
  have hm : m ≤ 20 := Nat.min_le_left _ _
  let x : Vals := { v0 with i := fun j => ns.getD j 0, t := fun j => match j with | 0 => τ1 0 | j => tokOf (vals.getD (j - 1) .none) }
  have hx : (vals.toArray.toList.take 20).toArray = cellsA m x := take_cells hv x (fun _ => rfl) (fun j => by show (match 1 + j with | 0 => τ1 0 | j => tokOf (vals.getD (j - 1) .none)) = _; rw [Nat.add_comm]; rfl)
  refine Seg.step_t (S := kA01 m) [0] x rfl (hR1 m hm) H HK (rest := []) (l := [(0, frA F.P τ1)]) E rfl rfl rfl (Nat.le_of_ble_eq_true rfl) (by kernel_rfl) (fun τ K' O => uses_all (all_cons (slice_use O _ _ _ _ h416 hx (by have := hv.length; simp; omega)) all_nil)) (fun _ => rfl) (Nat.le_refl 20) (fun s2 τ2 G => ?_)
  let y : Vals := { v0 with t := fun j => ([τ1 0, τ2 (6 + 5 * m), τ2 0, τ2 (2 + 5 * m), τ2 (3 + 5 * m)] : List Nat).getD j 0, a := fun _ => cellsO m τ2 x, n := fun _ => m }
  exact hk s2 y (cellsO_ok hm τ2 x) (Eq.mp (by kernel_rfl) G)
end
end Mine
end
section
set_option maxRecDepth 100000
set_option maxHeartbeats 4000000
namespace Mine
open PySem PySem.W PySem.W.X PyProof.Rows
/-- all the runs -/
structure Runs (kt : Params → KT) : Prop where
  hA : AllRuns kt
  a00 : kA00.Run kt
  a01 : ∀ m, m ≤ 20 → (kA01 m).Run kt
  a : ∀ tg, (kA tg).Run kt
  b : ∀ v, v ≤ 3 → (kB v).Run kt
  r1 : R1 kt
  e1 : ∀ k f, (kE1 k f).Run kt
  m : ∀ tg X Z, (kM tg X Z).Run kt
  t2 : ∀ X, (kT2 X).Run kt
  r2 : R2 kt
  e2 : ∀ m f, 1 ≤ m → m ≤ 4 → (kE2 m f).Run kt
  c : ∀ told v, v ≤ 2 → ∀ X, (kSc told v X).Run kt
  ri : RI kt
  rd : RD kt
  r3 : R3 kt
  e3 : ∀ m f, 1 ≤ m → m ≤ 4 → (kE3 m f).Run kt
  d1 : ∀ told X, (kD1 told X).Run kt
  d2 : ∀ told, RD2 told kt
  d3 : ∀ told, (kD3 told).Run kt
  d4 : ∀ told tg X, (kD4 told tg X).Run kt
theorem inh_nm (j : Nat) (h : j ≤ 3) : (inhS == nm j) = false := inh_ne _
theorem look_nil (x : Str) : lookS #[] x = none := by rw [lookS_toList]; rfl
theorem I1_start {P : Params} {tg : Bool} {t : Nat → Nat} {st : Tok} {y : Vals} : I1 P tg [] (xA P tg t 2 st y) := by
  have e : (xA P tg t 2 st y).e 1 = ((#[] : Array DictEntry).push (ent P (.mk #[112]) (t 53) (.int 1 (t 144)))).push (ent P (.mk #[113]) (t 54) (.int 1 (t 304))) := rfl
  have n112 : ∀ x : Str, hd? x ≠ some 112 → hd? x ≠ some 113 → lookS ((xA P tg t 2 st y).e 1) x = none := fun x h1 h2 => by
    rw [e, look_push_ne (ne_of_hd (fun q => h2 q.symm)), look_push_ne (ne_of_hd (fun q => h1 q.symm))]
    exact look_nil _
  refine { rows := trivial, spot := rfl, e0 := allS_nil, e1 := fun _ _ => look_nil _, e2 := Nat.le_refl _, c0 := ?_, c1 := fun j _ h3 => ?_, c2 := Nat.le_refl _, c3 := ?_, c4 := fun q hq => (by cases hq), o0 := Nat.le_refl _, r0 := rfl, p0 := allS_nil, pd := dist_nil, pz := Nat.le_refl _, pv := fun e he => (by cases he), p1 := fun _ _ _ _ _ => look_nil _, p2 := fun _ q hq => (by cases hq), p3 := fun _ => rfl, p4 := fun _ => rfl }
  · rw [e]; exact allS_push (allS_push allS_nil _ _ _ _) _ _ _ _
  · refine n112 _ ?_ ?_ <;> (show some (j + 102) ≠ some _; intro q; injection q with q; omega)
  · exact n112 _ (by decide +kernel) (by decide +kernel)
theorem rowsOk_all : ∀ {qs : Rows}, qs.length ≤ 4 → RowsOk qs → ∀ q ∈ qs, q.1.Ok ∧ q.1.k ≤ 3 ∧ (q.1.way = 0 ∨ q.1.way = 1 ∨ q.1.way = 2)
  | [], _, _, q, hq => by cases hq
  | a :: qs, hl, h, q, hq => by
    simp only [List.length_cons] at hl
    rcases List.mem_cons.mp hq with rfl | hq
    · exact ⟨h.2.1, by rw [h.1]; omega, h.2.2.1⟩
    · exact rowsOk_all (by omega) h.2.2.2 q hq
section
variable {F : Fix} {K : Addr → Option Obj} {dr : Drawn} {os : OsState} {R : List (Nat × Obj)} {s : Shared} {z n : Nat} {κ : TK}
theorem I3_start {P : Params} {tg : Bool} {l : Rows} {x : Vals} {fv : Nat → Value} {v : Nat} {ct : Tok} (i1 : I1 P tg l.reverse x) (hl : l.length ≤ 4) : I3 tg (x.e 2) (cnt3 v) [] l [] (x3s P fv (cnt3 v) ct x) := by
  have hc : cnt3 v ≤ 20000 := by unfold cnt3; split <;> decide
  refine ⟨allS_push i1.c0 _ _ _ _, look_push_same i1.c3, ?_, fun q hq => ?_, ?_, hc, allS_nil, fun _ _ => look_nil _, Nat.le_refl _, rfl, rfl, rfl, fun u hu => (nomatch hu)⟩
  · show ((x.e 1).push _).size ≤ 60
    have := i1.c2
    simp only [List.length_reverse] at this
    simp only [Array.size_push]; omega
  · obtain ⟨t, e⟩ := i1.c4 q (by simpa using hq)
    refine ⟨t, ?_⟩
    show lookS ((x.e 1).push _) (nm q.1.k) = _
    rw [look_push_ne (inh_ne _)]; exact e
  · show cnt3 v = cnt3 v + 0
    omega
end
end Mine
end
section
set_option maxRecDepth 100000
namespace Mine
open PySem PySem.W PySem.W.X
/-- a run of a piece, at one place, under a handled exception -/
noncomputable def Seg.goH (S : Seg) (hd : Option Value) (kt : Params → KT) (P : Params) (b c : Bool) (σ τ : Nat → Nat) (x : Vals) (W : Ctx → Prop) (Q : Result → Shared → Prop) : Out := match S.start P (kt P) σ x with
  | .code cd => codeR (vOf kt P b c σ τ S.lim (S.us P (kt P) σ τ x)) (runR (vOf kt P b c σ τ S.lim (S.us P (kt P) σ τ x)) (S.N c)) S.n0 hd (.base W Q) cd (initT 0 (S.ins P σ x) .nil) S.L 0 (S.sc c) [] []
  | .tree t => runR (vOfT kt P b c σ τ S.lim (S.us P (kt P) σ τ x)) (S.N c) S.n0 hd (.base W Q) (.nor t) (initT 0 (S.ins P σ x) .nil) S.L 0 (S.sc c) [] []
noncomputable def Seg.RunAt (S : Seg) (hd : Option Value) (kt : Params → KT) (P : Params) (b c : Bool) (σ τ : Nat → Nat) (x : Vals) (W : Ctx → Prop) (Q : Result → Shared → Prop) : Prop :=
  ((S.goH hd kt P b c σ τ x W Q).lhs, (S.goH hd kt P b c σ τ x W Q).view2 S.n0 S.xs) = ((S.goH hd kt P b c σ τ x W Q).rhs, some (S.fin P (kt P) σ τ x, S.n0, none, .base W Q, (S.outs P σ τ x).map some, S.L + S.d, S.e))
noncomputable def GoodSH (M : Model) (n : Nat) (hd : Option Value) (κ : TK) : St → Shared → Prop
  | .code c, s => GoodC M n hd κ c s
  | .tree t, s => Good M n hd κ t s
section
variable {F : Fix} {σ τ : Nat → Nat} {lim : Nat} {us : List Use} {K : Addr → Option Obj} {dr : Drawn} {os : OsState} {m₀ i₀ : Nat}
theorem Seg.sound1 {S : Seg} (H : F.Ok) (O : VOk (F.vc σ τ lim us K dr os m₀ i₀)) {js : List Nat} {m i : Nat} {x : Vals} (hnd : js.Nodup) (hL : js.length = S.L)
    (hL' : (S.ins F.w.params (Seg.σ' σ js m) x).length = S.L) (hL2 : S.L ≤ 1000) (hxs : ∀ y, y < S.L → y ∈ S.xs)
    (hus : ∀ K', VOk (F.vc (Seg.σ' σ js m) (Seg.τ' τ i) S.lim (S.us F.w.params (F.kt F.w.params) (Seg.σ' σ js m) (Seg.τ' τ i) x) K' dr os js.length 0) → UsesOk (F.vc (Seg.σ' σ js m) (Seg.τ' τ i) S.lim (S.us F.w.params (F.kt F.w.params) (Seg.σ' σ js m) (Seg.τ' τ i) x) K' dr os js.length 0))
    (hidx : idxOk (S.outsAt F.w.params σ τ m i js x) = true)
    {s : Shared} {R : KT} (D : Rep (F.vc σ τ lim us K dr os m₀ i₀) s R m i) (hins : ∀ p ∈ S.insAt F.w.params σ m js x, R.get p.1 = some p.2) {n : Nat} {hd : Option Value} {κ : TK} (run : S.RunAt hd F.kt F.w.params F.b F.c (Seg.σ' σ js m) (Seg.τ' τ i) x κ.W (Post (model PySem.Challenge.pw_rg0017_01 F.w) κ)) (hI : (∃ c, S.start F.w.params (F.kt F.w.params) (Seg.σ' σ js m) x = .code c) → κ.Inv) (hn : n ≤ S.n0)
    (hk : ∀ s', Rep (F.vc σ τ lim us K dr os m₀ i₀) s' (putL R (S.outsAt F.w.params σ τ m i js x)) (m + S.d) (i + S.e) →
      GoodF (model PySem.Challenge.pw_rg0017_01 F.w) S.n0 κ (S.fin F.w.params (F.kt F.w.params) (Seg.σ' σ js m) (Seg.τ' τ i) x) s') :
    GoodSH (model PySem.Challenge.pw_rg0017_01 F.w) n hd κ (S.start F.w.params (F.kt F.w.params) (Seg.σ' σ js m) x) s := by
  have hjs' : ∀ j ∈ js, (R.get j).isSome = true := fun j hj => by
    obtain ⟨k, hk, e⟩ := List.mem_iff_getElem.mp hj
    have hk' : k < (S.ins F.w.params (Seg.σ' σ js m) x).length := by omega
    have := hins (js.getD k 0, (S.ins F.w.params (Seg.σ' σ js m) x)[k]) (zip_at (by omega) (by simp [hk']))
    have e' : js.getD k 0 = j := by rw [getD_at hk, e]
    rw [e'] at this
    rw [this]; rfl
  have es : inσ σ m js = Seg.σ' σ js m := inσ_eq (fun j h => by have := O.adr j h; have : σ (j + 1) + 417 = σ j + 417 + 1 := this; omega) D.hm js
  have et : inτ τ i = Seg.τ' τ i := inτ_eq (fun j h => O.tok j h) D.hi
  have O' := sub_vok (lim' := S.lim) (us' := S.us F.w.params (F.kt F.w.params) (Seg.σ' σ js m) (Seg.τ' τ i) x) H O D hjs'
  have h0 : ∀ y o, (initT 0 (S.ins F.w.params (Seg.σ' σ js m) x) .nil).get y = some o → y < js.length ∧ R.get (js.getD y 0) = some o := fun y o e => by
    rcases get_initT _ 0 .nil y o (by omega) e with ⟨_, h⟩ | h
    · have hy : y < (S.ins F.w.params (Seg.σ' σ js m) x).length := by
        have := List.getElem?_eq_some_iff.mp h
        obtain ⟨q, _⟩ := this
        simpa using q
      refine ⟨by omega, ?_⟩
      exact hins (js.getD y 0, o) (zip_at (by omega) (by simpa using h))
    · exact absurd h (by rw [get_nil]; exact fun e => nomatch e)
  have D' := sub_in (lim' := S.lim) (us' := S.us F.w.params (F.kt F.w.params) (Seg.σ' σ js m) (Seg.τ' τ i) x) D hjs' hnd h0
  rw [es, et] at O' D'
  have U' := hus _ O'
  obtain ⟨R₁, hv, hf, hend⟩ := view2_some run
  have back : ∀ s', Rep (F.vc (Seg.σ' σ js m) (Seg.τ' τ i) S.lim (S.us F.w.params (F.kt F.w.params) (Seg.σ' σ js m) (Seg.τ' τ i) x) (inK σ js s) dr os js.length 0) s' R₁ (S.L + S.d) S.e →
      Rep (F.vc σ τ lim us K dr os m₀ i₀) s' (putL R (S.outsAt F.w.params σ τ m i js x)) (m + S.d) (i + S.e) := fun s' D'' => by
    rw [← es, ← et, ← hL] at D''
    refine sub_out O D hjs' D'' fun j o q => ?_
    rcases get_putL _ _ hidx j o q with hm | ⟨h1, h2⟩
    · obtain ⟨y, hy, rfl, ho⟩ := zip_mem hv hm
      by_cases b : y < js.length
      · exact .inl ⟨y, b, tgt_lt b, ho⟩
      · refine .inr (.inl ⟨y - js.length, tgt_ge b, ?_⟩)
        rw [show js.length + (y - js.length) = y by omega]
        exact ho
    · refine .inr (.inr ⟨fun hj => ?_, h2⟩)
      obtain ⟨y, hy, e'⟩ := List.mem_iff_getElem.mp hj
      obtain ⟨b, hb⟩ := zip_key (tgt js m) hv (hxs y (by omega))
      refine h1 _ hb ?_
      show tgt js m y = j
      rw [tgt_lt hy, getD_at hy, e']
  have fin : ∀ (o : Out), o = S.goH hd F.kt F.w.params F.b F.c (Seg.σ' σ js m) (Seg.τ' τ i) x κ.W (Post (model PySem.Challenge.pw_rg0017_01 F.w) κ) → o.Next (F.vc (Seg.σ' σ js m) (Seg.τ' τ i) S.lim (S.us F.w.params (F.kt F.w.params) (Seg.σ' σ js m) (Seg.τ' τ i) x) (inK σ js s) dr os js.length 0) := fun o ho => by
    rcases hend with ⟨r, ps, ef, eo⟩ | ⟨t, sc, ps, ef, eo⟩
    · rw [ho, eo]
      intro s' D''
      have z := hk s' (back s' D'')
      rw [ef] at z
      exact z
    · rw [ho, eo]
      intro s' D'' Γ p ok w
      have z := hk s' (back s' D'')
      rw [ef] at z
      exact z Γ p ok w
  have ho := fin _ rfl
  cases hst : S.start F.w.params (F.kt F.w.params) (Seg.σ' σ js m) x with
  | code c =>
    have G := codeR_sound O' (runR_sound O' U' (S.N F.c)) (n := S.n0) (hd := hd) (κ := .base κ.W (Post (model PySem.Challenge.pw_rg0017_01 F.w) κ)) (c := c) (R := initT 0 (S.ins F.w.params (Seg.σ' σ js m) x) .nil) (m := js.length) (i := 0) (sc := S.sc F.c) (ps := []) (qs := [])
    have e : codeR (F.vc (Seg.σ' σ js m) (Seg.τ' τ i) S.lim (S.us F.w.params (F.kt F.w.params) (Seg.σ' σ js m) (Seg.τ' τ i) x) (inK σ js s) dr os js.length 0).V (runR (F.vc (Seg.σ' σ js m) (Seg.τ' τ i) S.lim (S.us F.w.params (F.kt F.w.params) (Seg.σ' σ js m) (Seg.τ' τ i) x) (inK σ js s) dr os js.length 0).V (S.N F.c)) S.n0 hd (.base κ.W (Post (model PySem.Challenge.pw_rg0017_01 F.w) κ)) c (initT 0 (S.ins F.w.params (Seg.σ' σ js m) x) .nil) js.length 0 (S.sc F.c) [] [] =
        S.goH hd F.kt F.w.params F.b F.c (Seg.σ' σ js m) (Seg.τ' τ i) x κ.W (Post (model PySem.Challenge.pw_rg0017_01 F.w) κ) := by
      unfold Seg.goH
      rw [hst, hL]; rfl
    rw [e] at G
    have G2 := (G hf).2 (fun _ => hI ⟨c, hst⟩) ho s D'
    exact GoodC.mono (n' := S.n0) (fun Γ p o w q => G2 Γ p o w q) hn
  | tree t =>
    have e : runR (vOfT F.kt F.w.params F.b F.c (Seg.σ' σ js m) (Seg.τ' τ i) S.lim (S.us F.w.params (F.kt F.w.params) (Seg.σ' σ js m) (Seg.τ' τ i) x)) (S.N F.c) S.n0 hd (.base κ.W (Post (model PySem.Challenge.pw_rg0017_01 F.w) κ)) (.nor t) (initT 0 (S.ins F.w.params (Seg.σ' σ js m) x) .nil) js.length 0 (S.sc F.c) [] [] = S.goH hd F.kt F.w.params F.b F.c (Seg.σ' σ js m) (Seg.τ' τ i) x κ.W (Post (model PySem.Challenge.pw_rg0017_01 F.w) κ) := by
      unfold Seg.goH
      rw [hst, hL]
    have G : (S.goH hd F.kt F.w.params F.b F.c (Seg.σ' σ js m) (Seg.τ' τ i) x κ.W (Post (model PySem.Challenge.pw_rg0017_01 F.w) κ)).fair → ([] : List It) = [] ∧ ((TK.base κ.W (Post (model PySem.Challenge.pw_rg0017_01 F.w) κ)).Fit false → (S.goH hd F.kt F.w.params F.b F.c (Seg.σ' σ js m) (Seg.τ' τ i) x κ.W (Post (model PySem.Challenge.pw_rg0017_01 F.w) κ)).Next { (F.vc (Seg.σ' σ js m) (Seg.τ' τ i) S.lim (S.us F.w.params (F.kt F.w.params) (Seg.σ' σ js m) (Seg.τ' τ i) x) (inK σ js s) dr os js.length 0) with V := vOfT F.kt F.w.params F.b F.c (Seg.σ' σ js m) (Seg.τ' τ i) S.lim (S.us F.w.params (F.kt F.w.params) (Seg.σ' σ js m) (Seg.τ' τ i) x) } → ∀ s', Rep { (F.vc (Seg.σ' σ js m) (Seg.τ' τ i) S.lim (S.us F.w.params (F.kt F.w.params) (Seg.σ' σ js m) (Seg.τ' τ i) x) (inK σ js s) dr os js.length 0) with V := vOfT F.kt F.w.params F.b F.c (Seg.σ' σ js m) (Seg.τ' τ i) S.lim (S.us F.w.params (F.kt F.w.params) (Seg.σ' σ js m) (Seg.τ' τ i) x) } s' (initT 0 (S.ins F.w.params (Seg.σ' σ js m) x) .nil) js.length 0 → Good (model PySem.Challenge.pw_rg0017_01 F.w) S.n0 hd (.base κ.W (Post (model PySem.Challenge.pw_rg0017_01 F.w) κ)) (Md.nor t).act s') := by
      rw [← e]
      exact runR_sound (C := { (F.vc (Seg.σ' σ js m) (Seg.τ' τ i) S.lim (S.us F.w.params (F.kt F.w.params) (Seg.σ' σ js m) (Seg.τ' τ i) x) (inK σ js s) dr os js.length 0) with V := vOfT F.kt F.w.params F.b F.c (Seg.σ' σ js m) (Seg.τ' τ i) S.lim (S.us F.w.params (F.kt F.w.params) (Seg.σ' σ js m) (Seg.τ' τ i) x) }) (vok_ag O' false) (uses_ag U' false) (S.N F.c) S.n0 hd (.base κ.W (Post (model PySem.Challenge.pw_rg0017_01 F.w) κ)) (.nor t) (initT 0 (S.ins F.w.params (Seg.σ' σ js m) x) .nil) js.length 0 (S.sc F.c) [] []
    have ho' : (S.goH hd F.kt F.w.params F.b F.c (Seg.σ' σ js m) (Seg.τ' τ i) x κ.W (Post (model PySem.Challenge.pw_rg0017_01 F.w) κ)).Next { (F.vc (Seg.σ' σ js m) (Seg.τ' τ i) S.lim (S.us F.w.params (F.kt F.w.params) (Seg.σ' σ js m) (Seg.τ' τ i) x) (inK σ js s) dr os js.length 0) with V := vOfT F.kt F.w.params F.b F.c (Seg.σ' σ js m) (Seg.τ' τ i) S.lim (S.us F.w.params (F.kt F.w.params) (Seg.σ' σ js m) (Seg.τ' τ i) x) } := by
      revert ho
      generalize S.goH hd F.kt F.w.params F.b F.c (Seg.σ' σ js m) (Seg.τ' τ i) x κ.W (Post (model PySem.Challenge.pw_rg0017_01 F.w) κ) = o
      intro ho
      cases o with
      | res => exact fun s' D'' => ho s' (rep_ga D'')
      | «at» => exact fun s' D'' => ho s' (rep_ga D'')
      | _ => exact ho
    have G2 := (G hf).2 (fun h => nomatch h) ho' s (rep_ag D' false)
    exact Good.mono (n' := S.n0) (fun Γ p o w => G2 Γ p o w) hn

end
theorem Seg.step1 {S : Seg} {F : Fix} {K : Addr → Option Obj} {dr : Drawn} {os : OsState} (H : F.Ok) (HK : KOk F K) (as : List Nat) (x : Vals) (rest : List (Nat × Obj)) {z : Nat}
    (hL : as.length = S.L) (hL' : (S.ins F.w.params (adr as z) x).length = S.L) (hL2 : S.L ≤ 1000) (hxs : ∀ y, y < S.L → y ∈ S.xs) (hnd : S.xs.Nodup) (hxd : ∀ y ∈ S.xs, y < 65536)
    (hus : ∀ (τ : Nat → Nat) K', VOk (F.vc (adr as z) τ S.lim (S.us F.w.params (F.kt F.w.params) (adr as z) τ x) K' dr os S.L 0) → UsesOk (F.vc (adr as z) τ S.lim (S.us F.w.params (F.kt F.w.params) (adr as z) τ x) K' dr os S.L 0))
    {s : Shared} (D : Hp K dr os s z (as.zip (S.ins F.w.params (adr as z) x) ++ rest)) {n : Nat} {hd : Option Value} {κ : TK} (run : S.RunAt hd F.kt F.w.params F.b F.c (adr as z) (fun y => s.toks + y) x κ.W (Post (model PySem.Challenge.pw_rg0017_01 F.w) κ)) (hI : (∃ c, S.start F.w.params (F.kt F.w.params) (adr as z) x = .code c) → κ.Inv) (hn : n ≤ S.n0)
    (hk : ∀ s', Hp K dr os s' (z + S.d) ((S.xs.map (adr as z)).zip (S.outs F.w.params (adr as z) (fun y => s.toks + y) x) ++ rest) →
      GoodF (model PySem.Challenge.pw_rg0017_01 F.w) S.n0 κ (S.fin F.w.params (F.kt F.w.params) (adr as z) (fun y => s.toks + y) x) s') :
    GoodSH (model PySem.Challenge.pw_rg0017_01 F.w) n hd κ (S.start F.w.params (F.kt F.w.params) (adr as z) x) s := by
  have fst : (as.zip (S.ins F.w.params (adr as z) x)).map Prod.fst = as := by rw [List.map_fst_zip]; omega
  have nd : (as ++ rest.map Prod.fst).Nodup := by have := D.nd; rw [List.map_append, fst] at this; exact this
  obtain ⟨nd1, nd2, nd3⟩ := List.nodup_append.mp nd
  have low : ∀ p ∈ as.zip (S.ins F.w.params (adr as z) x) ++ rest, p.1 < z := fun p hp => by
    have q : p.1 + 417 < s.heap.objs.size := Heap.lt_size (D.own p hp).2
    have e : s.heap.objs.size = z + 417 := D.size
    omega
  have lowA : ∀ a ∈ as, a < z := fun a ha => by
    rw [← fst] at ha
    obtain ⟨p, hp, rfl⟩ := List.mem_map.mp ha
    exact low p (List.mem_append_left _ hp)
  have lowR : ∀ p ∈ rest, p.1 < z := fun p hp => low p (List.mem_append_right _ hp)
  have lowK : ∀ b o, K b = some o → b < z + 417 := fun b o e => by have q := Heap.lt_size (D.keep b o e); have e : s.heap.objs.size = z + 417 := D.size; rw [e] at q; exact q
  have ownN : ∀ a ∈ as, K (a + 417) = none := fun a ha => by
    rw [← fst] at ha
    obtain ⟨p, hp, rfl⟩ := List.mem_map.mp ha
    exact (D.own p (List.mem_append_left _ hp)).1
  have KK : ∀ b o, K b = some o → ownK s as b = some o := fun b o e => by
    unfold ownK
    rw [if_neg]
    · exact D.keep b o e
    · rintro ⟨a, ha, rfl⟩
      rw [ownN a ha] at e; cases e
  have τl : ∀ j, (fun y => s.toks + y) (j + 1) = (fun y => s.toks + y) j + 1 := fun j => rfl
  have σl : ∀ j, as.length ≤ j → adr as z (j + 1) = adr as z j + 1 := fun j h => by rw [adr_ge (by omega), adr_ge (by omega)]; omega
  have es : Seg.σ' (adr as z) (List.range S.L) S.L = adr as z := funext fun y => by unfold Seg.σ'; rw [tgt_range]
  have et : Seg.τ' (fun y => s.toks + y) 0 = fun y => s.toks + y := funext fun y => by unfold Seg.τ'; simp
  have O : VOk (F.vc (adr as z) (fun y => s.toks + y) S.lim (S.us F.w.params (F.kt F.w.params) (adr as z) (fun y => s.toks + y) x) (ownK s as) dr os S.L 0) :=
    H.vok (fun a o e => KK a o (HK.kt a o e)) (fun h e => HK.nolimit h fun b o q => e b o (KK b o q)) (fun j hj => σl j (by omega)) (fun j _ => τl j)
  have R₀ : ∀ j o, (initT 0 (S.ins F.w.params (adr as z) x) .nil).get j = some o → ∃ h : j < as.length, (as[j], o) ∈ as.zip (S.ins F.w.params (adr as z) x) := fun j o e => by
    rcases get_initT _ 0 .nil j o (by omega) e with ⟨_, h⟩ | h
    · have hy : j < (S.ins F.w.params (adr as z) x).length := by
        obtain ⟨q, _⟩ := List.getElem?_eq_some_iff.mp h
        simpa using q
      exact ⟨by omega, zip_get (by omega) (by simpa using h)⟩
    · exact absurd h (by rw [get_nil]; exact fun e => nomatch e)
  have R₁ : ∀ (l : List Obj) (k : Nat) (R : KT), k + l.length ≤ 1000 → ∀ j o, k ≤ j → l[j - k]? = some o → (initT k l R).get j = some o := by
    intro l
    induction l with
    | nil => intro k R _ j o _ e; simp at e
    | cons a l ih =>
      intro k R h j o hj e
      simp only [List.length_cons] at h
      by_cases q : j = k
      · subst q
        have keep : ∀ (l : List Obj) (k : Nat) (R : KT), j < k → k + l.length ≤ 1000 → (initT k l R).get j = R.get j := by
          intro l
          induction l with
          | nil => intro k R _ _; rfl
          | cons a l ih =>
            intro k R h h2
            simp only [List.length_cons] at h2
            show (initT (k + 1) l (putT 17 R k a)).get j = _
            rw [ih _ _ (by omega) (by omega), get_putT a 16 R k (by show k < 65536; omega), if_neg (by omega)]
        show (initT (j + 1) l (putT 17 R j a)).get j = _
        rw [keep l _ _ (by omega) (by omega), get_putT a 16 R j (by show j < 65536; omega), if_pos rfl]
        simpa using e
      · refine ih (k + 1) _ (by omega) j o (by omega) ?_
        rw [show j - k = (j - (k + 1)) + 1 by omega, List.getElem?_cons_succ] at e
        exact e
  have D' : Rep (F.vc (adr as z) (fun y => s.toks + y) S.lim (S.us F.w.params (F.kt F.w.params) (adr as z) (fun y => s.toks + y) x) (ownK s as) dr os S.L 0) s (initT 0 (S.ins F.w.params (adr as z) x) .nil) S.L 0 := by
    refine ⟨D.gens, D.drawn, D.os, fun b o e => ?_, ?_, ?_, Nat.le_refl _, Nat.le_refl _, fun j o e => ?_, fun j k hj hk e => ?_⟩
    · have e' : ownK s as b = some o := e
      unfold ownK at e'
      split at e'
      · cases e'
      · exact e'
    · rw [D.size]
      show z + 417 = adr as z S.L + 417
      rw [adr_ge (by omega)]; omega
    · show s.toks = s.toks + 0
      rfl
    · obtain ⟨hj, hm⟩ := R₀ j o e
      show ownK s as (adr as z j + 417) = none ∧ s.heap.get? (adr as z j + 417) = some o
      rw [adr_lt hj]
      refine ⟨?_, (D.own _ (List.mem_append_left _ hm)).2⟩
      unfold ownK
      rw [if_pos ⟨_, List.getElem_mem hj, rfl⟩]
    · obtain ⟨oj, ej⟩ := Option.isSome_iff_exists.mp hj
      obtain ⟨ok, ek⟩ := Option.isSome_iff_exists.mp hk
      obtain ⟨hj, _⟩ := R₀ j oj ej
      obtain ⟨hk, _⟩ := R₀ k ok ek
      have e' : adr as z j + 417 = adr as z k + 417 := e
      rw [adr_lt hj, adr_lt hk] at e'
      exact nodup_inj nd1 hj hk (by omega)
  have oat : S.outsAt F.w.params (adr as z) (fun y => s.toks + y) S.L 0 (List.range S.L) x = S.xs.zip (S.outs F.w.params (adr as z) (fun y => s.toks + y) x) := by
    unfold Seg.outsAt
    rw [es, et]
    congr 1
    rw [show tgt (List.range S.L) S.L = id from funext fun y => tgt_range _ _, List.map_id]
  have idx : ∀ l : List (Nat × Obj), (∀ p ∈ l, p.1 < 65536) → idxOk l = true := by
    intro l
    induction l with
    | nil => intro _; rfl
    | cons p l ih =>
      intro h
      obtain ⟨j, o⟩ := p
      unfold idxOk
      have : Nat.blt j 65536 = true := Nat.ble_eq_true_of_le (h (j, o) List.mem_cons_self)
      rw [this]
      exact ih fun p hp => h p (List.mem_cons_of_mem _ hp)
  have hix : idxOk (S.xs.zip (S.outs F.w.params (adr as z) (fun y => s.toks + y) x)) = true := idx _ fun p hp => hxd _ (List.of_mem_zip hp).1
  have key := Seg.sound1 (S := S) (F := F) (σ := adr as z) (τ := fun y => s.toks + y) (js := List.range S.L) (m := S.L) (i := 0) (x := x) (n := n) (κ := κ) H O List.nodup_range (by simp) (by rw [es]; exact hL') hL2 hxs
    (by
      rw [es, et]
      intro K' O'
      rw [List.length_range] at O' ⊢
      exact hus _ K' O')
    (by rw [oat]; exact hix) (s := s) D' (by
      unfold Seg.insAt
      rw [es]
      intro p hp
      obtain ⟨y, hy, rfl⟩ := List.mem_iff_getElem.mp hp
      simp only [List.length_zip, List.length_range] at hy
      simp only [List.getElem_zip, List.getElem_range]
      exact R₁ _ 0 .nil (by omega) y _ (Nat.zero_le _) (by simp)) (by rw [es, et]; exact run) (by rw [es]; exact hI) hn
    (fun s' E => by
      rw [oat] at E
      rw [es, et]
      refine hk s' ?_
      have inj : ∀ y y', adr as z y = adr as z y' → y = y' := fun y y' e => by
        by_cases h : y < as.length <;> by_cases h' : y' < as.length
        · rw [adr_lt h, adr_lt h'] at e
          exact nodup_inj nd1 h h' e
        · rw [adr_lt h, adr_ge h'] at e
          have := lowA _ (List.getElem_mem h); omega
        · rw [adr_ge h, adr_lt h'] at e
          have := lowA _ (List.getElem_mem h'); omega
        · rw [adr_ge h, adr_ge h'] at e; omega
      have znd : ((S.xs.zip (S.outs F.w.params (adr as z) (fun y => s.toks + y) x)).map Prod.fst).Nodup := by
        refine hnd.sublist ?_
        rw [← List.take_append_drop (S.outs F.w.params (adr as z) (fun y => s.toks + y) x).length S.xs]
        have : ∀ (a : List Nat) (b : List Obj), List.Sublist ((a.zip b).map Prod.fst) a := by
          intro a
          induction a with
          | nil => intro b; simp
          | cons x a ih =>
            intro b
            cases b with
            | nil => simp
            | cons y b => simpa using (ih b)
        exact this _ _
      have notIn : ∀ p ∈ rest, ownK s as (p.1 + 417) = some p.2 := fun p hp => by
        unfold ownK
        rw [if_neg]
        · exact (D.own p (List.mem_append_right _ hp)).2
        · rintro ⟨a, ha, e⟩
          exact nd3 a ha p.1 (List.mem_map.mpr ⟨p, hp, rfl⟩) (Nat.add_right_cancel (m := 417) e).symm
      refine ⟨E.gens, E.drawn, E.os, fun b o e => E.keep b o (KK b o e), ?_, fun p hp => ?_, ?_⟩
      · have : s'.heap.objs.size = adr as z (S.L + S.d) + 417 := E.size
        rw [this, adr_ge (by omega)]; omega
      · rcases List.mem_append.mp hp with hp | hp
        · obtain ⟨y, hy, rfl⟩ := List.mem_iff_getElem.mp hp
          simp only [List.length_zip, List.length_map] at hy
          simp only [List.getElem_zip, List.getElem_map]
          have hm : (S.xs[y], (S.outs F.w.params (adr as z) (fun y => s.toks + y) x)[y]) ∈ S.xs.zip (S.outs F.w.params (adr as z) (fun y => s.toks + y) x) := List.mem_iff_getElem.mpr ⟨y, by simp; omega, by simp⟩
          have ow := E.own _ _ (putL_get _ (initT 0 (S.ins F.w.params (adr as z) x) .nil) hix znd _ _ hm)
          refine ⟨?_, ow.2⟩
          by_cases h : S.xs[y] < as.length
          · rw [adr_lt h]; exact ownN _ (List.getElem_mem h)
          · rw [adr_ge h]
            cases e : K (z + (S.xs[y] - as.length) + 417) with
            | none => rfl
            | some o =>
              have q : z + (S.xs[y] - as.length) + 417 < z + 417 := lowK _ _ e
              omega
        · exact ⟨(D.own p (List.mem_append_right _ hp)).1, E.keep _ _ (notIn p hp)⟩
      · rw [List.map_append]
        refine List.nodup_append.mpr ⟨?_, nd2, fun a ha b hb e => ?_⟩
        · have : (List.zip (S.xs.map (adr as z)) (S.outs F.w.params (adr as z) (fun y => s.toks + y) x)).map Prod.fst = ((S.xs.zip (S.outs F.w.params (adr as z) (fun y => s.toks + y) x)).map Prod.fst).map (adr as z) := by
            rw [List.zip_map_left, List.map_map, List.map_map]; rfl
          rw [this]
          exact List.Pairwise.map _ (fun a b h e => h (inj _ _ e)) znd
        · subst e
          obtain ⟨p, hp, rfl⟩ := List.mem_map.mp ha
          obtain ⟨r, hr, e⟩ := List.mem_map.mp hb
          have hp1 := (List.of_mem_zip hp).1
          obtain ⟨y, hy, e'⟩ := List.mem_map.mp hp1
          by_cases h : y < as.length
          · rw [adr_lt h] at e'
            exact nd3 _ (List.getElem_mem h) r.1 (List.mem_map.mpr ⟨r, hr, rfl⟩) (by rw [e', e])
          · rw [adr_ge h] at e'
            have q : r.1 < z := lowR r hr
            have e2 : r.1 = p.1 := e
            have e3 : z + (y - as.length) = p.1 := e'
            omega)
  rw [es] at key
  exact key

/-! ### pieces that end at a call; of what comes behind it only how it passes an exception on -/
structure SegE where
  S : Seg
  c : Params → KT → (Nat → Nat) → (Nat → Nat) → Vals → Code
  t : Params → KT → (Nat → Nat) → (Nat → Nat) → Vals → Value → Sem Fin
noncomputable def SegE.Run (E : SegE) (kt : Params → KT) : Prop := ∀ (P : Params) (b c : Bool) (σ τ : Nat → Nat) (x : Vals) (W : Ctx → Prop) (Q : Result → Shared → Prop), ∃ g l k,
  ((E.S.go kt P b c σ τ x W Q).lhs, (E.S.go kt P b c σ τ x W Q).view2 E.S.n0 E.S.xs) = ((E.S.go kt P b c σ τ x W Q).rhs, some (.tree (.call (E.c P (kt P) σ τ x) none g l k), E.S.n0, none, .base W Q, (E.S.outs P σ τ x).map some, E.S.L + E.S.d, E.S.e)) ∧ ∀ e, k (.error e) = E.t P (kt P) σ τ x e
noncomputable def Out.cg : Out → Bool × List Value × (Result → Sem Fin)
  | .at _ _ _ md _ _ _ _ _ _ => match md with
    | .nor t => match t with
      | .call _ _ g l k => (g, l, k)
      | _ => (false, [], fun _ => .raise .none)
    | _ => (false, [], fun _ => .raise .none)
  | _ => (false, [], fun _ => .raise .none)
theorem SegE.run_of {E : SegE} {kt : Params → KT} (h : ∀ (P : Params) (b c : Bool) (σ τ : Nat → Nat) (x : Vals) (W : Ctx → Prop) (Q : Result → Shared → Prop),
    ((E.S.go kt P b c σ τ x W Q).lhs, (E.S.go kt P b c σ τ x W Q).view2 E.S.n0 E.S.xs) = ((E.S.go kt P b c σ τ x W Q).rhs, some (.tree (.call (E.c P (kt P) σ τ x) none (E.S.go kt P b c σ τ x W Q).cg.1 (E.S.go kt P b c σ τ x W Q).cg.2.1 (E.S.go kt P b c σ τ x W Q).cg.2.2), E.S.n0, none, .base W Q, (E.S.outs P σ τ x).map some, E.S.L + E.S.d, E.S.e)))
    (h2 : ∀ (P : Params) (b c : Bool) (σ τ : Nat → Nat) (x : Vals) (W : Ctx → Prop) (Q : Result → Shared → Prop) e, (E.S.go kt P b c σ τ x W Q).cg.2.2 (.error e) = E.t P (kt P) σ τ x e) : E.Run kt := fun P b c σ τ x W Q => ⟨_, _, _, h P b c σ τ x W Q, h2 P b c σ τ x W Q⟩
theorem SegE.step {E : SegE} {F : Fix} {K : Addr → Option Obj} {dr : Drawn} {os : OsState} {l rest : List (Nat × Obj)} {z n : Nat} {s : Shared} {κ : TK} (as : List Nat) (x : Vals) (hl : l = List.zip as (E.S.ins F.w.params (adr as z) x)) (run : E.Run F.kt) (H : F.Ok) (HK : KOk F K) (D : Hp K dr os s z (l ++ rest))
    (hL : as.length = E.S.L) (hL' : (E.S.ins F.w.params (adr as z) x).length = E.S.L) (hL2 : E.S.L ≤ 1000) (hxs : xsOk E.S = true)
    (hus : ∀ (τ : Nat → Nat) K', VOk (F.vc (adr as z) τ E.S.lim (E.S.us F.w.params (F.kt F.w.params) (adr as z) τ x) K' dr os E.S.L 0) → UsesOk (F.vc (adr as z) τ E.S.lim (E.S.us F.w.params (F.kt F.w.params) (adr as z) τ x) K' dr os E.S.L 0))
    (hI : (∃ c, E.S.start F.w.params (F.kt F.w.params) (adr as z) x = .code c) → κ.Inv) (hn : n ≤ E.S.n0) (W' : Ctx → Prop) (hW : ∀ (τ : Nat → Nat) (Γ : Ctx) p, κ.W Γ → W' (Γ.enter (E.c F.w.params (F.kt F.w.params) (adr as z) τ x) none p))
    (hk : ∀ s' τ, Hp K dr os s' (z + E.S.d) (List.zip (E.S.xs.map (adr as z)) (E.S.outs F.w.params (adr as z) τ x) ++ rest) →
      GoodC F.M (E.S.n0 + 1) none (.base W' fun r s'' => ∃ e, r = .error e ∧ Good F.M E.S.n0 none κ (E.t F.w.params (F.kt F.w.params) (adr as z) τ x e) s'') (E.c F.w.params (F.kt F.w.params) (adr as z) τ x) s') :
    GoodS F.M n κ (E.S.start F.w.params (F.kt F.w.params) (adr as z) x) s := by
  subst hl
  unfold xsOk at hxs
  simp only [Bool.and_eq_true, decide_eq_true_eq, List.all_eq_true] at hxs
  obtain ⟨⟨h1, h2⟩, h3⟩ := hxs
  obtain ⟨g, l, k, r1, r2⟩ := run F.w.params F.b F.c (adr as z) (fun y => s.toks + y) x κ.W (Post (model PySem.Challenge.pw_rg0017_01 F.w) κ)
  suffices h : GoodSH F.M n none κ (E.S.start F.w.params (F.kt F.w.params) (adr as z) x) s by
    cases q : E.S.start F.w.params (F.kt F.w.params) (adr as z) x <;> (rw [q] at h; exact h)
  refine Seg.step1 (hd := none) (S := { E.S with fin := fun _ _ _ _ _ => .tree (.call (E.c F.w.params (F.kt F.w.params) (adr as z) (fun y => s.toks + y) x) none g l k) }) H HK as x rest hL hL' hL2 (fun y hy => ?_) h2 h3 hus D r1 hI hn (fun s' G => ?_)
  · obtain ⟨j, hj, e⟩ := List.any_eq_true.mp (h1 y (by simpa using hy))
    rw [← Nat.eq_of_beq_eq_true e]; exact hj
  · show Good F.M E.S.n0 none κ (.call _ none g l k) s'
    intro Γ p hΓ w
    rw [Sem.wp_call]
    refine wpCode_mono (fun r s'' hr => ?_) (hk s' _ G (Γ.enter _ none p) p (hΓ.enter _ p rfl) (hW _ Γ p w) rfl)
    obtain ⟨e, rfl, hg⟩ := hr
    have z := hg Γ p hΓ w
    rw [← r2 e] at z
    exact z
/-- the same, with how an answer is passed on, under a handled exception -/
structure SegK where
  S : Seg
  c : Params → KT → (Nat → Nat) → (Nat → Nat) → Vals → Code
  h : Params → KT → (Nat → Nat) → (Nat → Nat) → Vals → Value
  t : Params → KT → (Nat → Nat) → (Nat → Nat) → Vals → Value → Sem Fin
noncomputable def SegK.Run (E : SegK) (kt : Params → KT) : Prop := ∀ (P : Params) (b c : Bool) (σ τ : Nat → Nat) (x : Vals) (W : Ctx → Prop) (Q : Result → Shared → Prop), ∃ g l k,
  ((E.S.go kt P b c σ τ x W Q).lhs, (E.S.go kt P b c σ τ x W Q).view2 E.S.n0 E.S.xs) = ((E.S.go kt P b c σ τ x W Q).rhs, some (.tree (.call (E.c P (kt P) σ τ x) (some (E.h P (kt P) σ τ x)) g l k), E.S.n0, none, .base W Q, (E.S.outs P σ τ x).map some, E.S.L + E.S.d, E.S.e)) ∧ ∀ v, k (.ok (.ret v)) = E.t P (kt P) σ τ x v
theorem SegK.run_of {E : SegK} {kt : Params → KT} (h : ∀ (P : Params) (b c : Bool) (σ τ : Nat → Nat) (x : Vals) (W : Ctx → Prop) (Q : Result → Shared → Prop),
    ((E.S.go kt P b c σ τ x W Q).lhs, (E.S.go kt P b c σ τ x W Q).view2 E.S.n0 E.S.xs) = ((E.S.go kt P b c σ τ x W Q).rhs, some (.tree (.call (E.c P (kt P) σ τ x) (some (E.h P (kt P) σ τ x)) (E.S.go kt P b c σ τ x W Q).cg.1 (E.S.go kt P b c σ τ x W Q).cg.2.1 (E.S.go kt P b c σ τ x W Q).cg.2.2), E.S.n0, none, .base W Q, (E.S.outs P σ τ x).map some, E.S.L + E.S.d, E.S.e)))
    (h2 : ∀ (P : Params) (b c : Bool) (σ τ : Nat → Nat) (x : Vals) (W : Ctx → Prop) (Q : Result → Shared → Prop) v, (E.S.go kt P b c σ τ x W Q).cg.2.2 (.ok (.ret v)) = E.t P (kt P) σ τ x v) : E.Run kt := fun P b c σ τ x W Q => ⟨_, _, _, h P b c σ τ x W Q, h2 P b c σ τ x W Q⟩
theorem SegK.step {E : SegK} {F : Fix} {K : Addr → Option Obj} {dr : Drawn} {os : OsState} {l rest : List (Nat × Obj)} {z n : Nat} {s : Shared} {κ : TK} (as : List Nat) (x : Vals) (hl : l = List.zip as (E.S.ins F.w.params (adr as z) x)) (run : E.Run F.kt) (H : F.Ok) (HK : KOk F K) (D : Hp K dr os s z (l ++ rest))
    (hL : as.length = E.S.L) (hL' : (E.S.ins F.w.params (adr as z) x).length = E.S.L) (hL2 : E.S.L ≤ 1000) (hxs : xsOk E.S = true)
    (hus : ∀ (τ : Nat → Nat) K', VOk (F.vc (adr as z) τ E.S.lim (E.S.us F.w.params (F.kt F.w.params) (adr as z) τ x) K' dr os E.S.L 0) → UsesOk (F.vc (adr as z) τ E.S.lim (E.S.us F.w.params (F.kt F.w.params) (adr as z) τ x) K' dr os E.S.L 0))
    (hI : (∃ c, E.S.start F.w.params (F.kt F.w.params) (adr as z) x = .code c) → κ.Inv) (hn : n ≤ E.S.n0) (W' : Ctx → Prop) (hW : ∀ (τ : Nat → Nat) (Γ : Ctx) p, κ.W Γ → W' (Γ.enter (E.c F.w.params (F.kt F.w.params) (adr as z) τ x) (some (E.h F.w.params (F.kt F.w.params) (adr as z) τ x)) p))
    (hm : ∀ τ, markQ (some (E.h F.w.params (F.kt F.w.params) (adr as z) τ x)) none = some (some (E.h F.w.params (F.kt F.w.params) (adr as z) τ x)))
    (hk : ∀ s' τ, Hp K dr os s' (z + E.S.d) (List.zip (E.S.xs.map (adr as z)) (E.S.outs F.w.params (adr as z) τ x) ++ rest) →
      GoodC F.M (E.S.n0 + 1) (some (E.h F.w.params (F.kt F.w.params) (adr as z) τ x)) (.base W' fun r s'' => ∃ v, r = .ok (.ret v) ∧ Good F.M E.S.n0 none κ (E.t F.w.params (F.kt F.w.params) (adr as z) τ x v) s'') (E.c F.w.params (F.kt F.w.params) (adr as z) τ x) s') :
    GoodS F.M n κ (E.S.start F.w.params (F.kt F.w.params) (adr as z) x) s := by
  subst hl
  unfold xsOk at hxs
  simp only [Bool.and_eq_true, decide_eq_true_eq, List.all_eq_true] at hxs
  obtain ⟨⟨h1, h2⟩, h3⟩ := hxs
  obtain ⟨g, l, k, r1, r2⟩ := run F.w.params F.b F.c (adr as z) (fun y => s.toks + y) x κ.W (Post (model PySem.Challenge.pw_rg0017_01 F.w) κ)
  suffices h : GoodSH F.M n none κ (E.S.start F.w.params (F.kt F.w.params) (adr as z) x) s by
    cases q : E.S.start F.w.params (F.kt F.w.params) (adr as z) x <;> (rw [q] at h; exact h)
  refine Seg.step1 (hd := none) (S := { E.S with fin := fun _ _ _ _ _ => .tree (.call (E.c F.w.params (F.kt F.w.params) (adr as z) (fun y => s.toks + y) x) (some (E.h F.w.params (F.kt F.w.params) (adr as z) (fun y => s.toks + y) x)) g l k) }) H HK as x rest hL hL' hL2 (fun y hy => ?_) h2 h3 hus D r1 hI hn (fun s' G => ?_)
  · obtain ⟨j, hj, e⟩ := List.any_eq_true.mp (h1 y (by simpa using hy))
    rw [← Nat.eq_of_beq_eq_true e]; exact hj
  · show Good F.M E.S.n0 none κ (.call _ _ g l k) s'
    intro Γ p hΓ w
    rw [Sem.wp_call]
    refine wpCode_mono (fun r s'' hr => ?_) (hk s' _ G (Γ.enter _ _ p) p (hΓ.enter _ p (hm _)) (hW _ Γ p w) rfl)
    obtain ⟨e, rfl, hg⟩ := hr
    have z := hg Γ p hΓ w
    rw [← r2 e] at z
    exact z
end Mine
end
section
set_option maxRecDepth 100000
set_option maxHeartbeats 4000000
namespace Mine
open PySem
section
variable {M : Model} {A : Around} {E : Value → Shared → Prop} {h : Heap} {g : Array GenState} {d : Drawn} {t : Nat} {os : OsState}
variable {nm q : Str} {C N : Addr} {bs bm bmB : List Value} {hdct : Bool} {sn : List Str} {sub : List Value} {ab : Bool} {col : Option Bool} {dd : Option Addr} {k0 k1 k2 k3 k5 : Option Value} {B newId initId : String}
theorem check_exc_new (F : ExcBaseFacts B newId initId bmB) (hB : bm.contains (.type B) = true) {rest : List Value} {Q : Unit → Shared → Prop} (hC : h.get? C = some (excClassObj nm q C N bs bm hdct sn sub ab col dd k0 k1 k2 k3 k5 newId))
    (hq : Q () ⟨h, g, d, t, os⟩) : wpAny M A (checkBuiltinCall newId ⟨.ref C :: rest, []⟩) Q E ⟨h, g, d, t, os⟩ := by
  have hcont : (Value.ref C :: bm).contains (.type B) = true := by rw [List.contains_cons, hB, Bool.or_true]
  have hstar := F.noStar
  simp only [checkBuiltinCall, F.newKind, F.newSplit, F.newRow]
  repeat (first | refine wpAny_loadPart_at hC ?_ | (refine wpAny_isSubtype_exc hC ?_; rw [hcont]) | refine wpAny_staticBase_exc hC ?_ | refine wpAny_madeBy_exc hC ?_ | simp only [bne_self_eq_false, Bool.false_eq_true, if_false] | wp_step)
  exact hq
end
section
variable {prog : Program} {w : World} {A : Around} {R : Result → Shared → Prop} {h : Heap} {g : Array GenState} {d : Drawn} {t : Nat} {os : OsState}
variable {nm q : Str} {C N : Addr} {bs bm bmB : List Value} {hdct : Bool} {sn : List Str} {sub : List Value} {ab : Bool} {col : Option Bool} {dd : Option Addr} {k0 k1 k2 k3 k5 : Option Value} {B newId initId : String}
theorem code_exc_new (F : ExcBaseFacts B newId initId bmB) (hB : bm.contains (.type B) = true) (hAt : bm.contains (.type "AttributeError") = false) (hNm : bm.contains (.type "NameError") = false) {rest : List Value}
    (hC : h.get? C = some (excClassObj nm q C N bs bm hdct sn sub ab col dd k0 k1 k2 k3 k5 newId))
    (hq : R (.ok (.ret (.ref (h.objs.size + 1)))) ⟨(h.push { cls := .type "tuple", data := .seq rest.toArray }).push
      { cls := .ref C, data := .fields #[.ref h.objs.size, .none, .none, .none, .bool false, .none] }, g, d, t, os⟩) (hrest : rest.length ≤ sizeLine) :
    codeAny (model prog w) A (.builtin newId ⟨.ref C :: rest, []⟩) R ⟨h, g, d, t, os⟩ := by
  have hends := F.ends
  have hcB : (Value.ref C :: bm).contains (.type B) = true := by rw [List.contains_cons, hB, Bool.or_true]
  have hcA : (Value.ref C :: bm).contains (.type "AttributeError") = false := by rw [List.contains_cons, hAt]; rfl
  have hcN : (Value.ref C :: bm).contains (.type "NameError") = false := by rw [List.contains_cons, hNm]; rfl
  refine codeAny_builtinAt F.entry ?_
  unfold Builtin.«BaseException.__new__»
  refine wpAt_bind ?_
  show wpAt _ _ _ (stack >>= _) _ _ _
  refine wpAt_bind (wpAt_stack fun p below => wpAt_of_wpAny ?_)
  wp_walk
  refine wpAt_of_wpAny ?_
  rw [F.owner]
  repeat (first | with_reducible refine wpAny_madeHere_exc F.canon hC ?_ | with_reducible refine wpAny_loadPart_at hC ?_ | (with_reducible refine wpAny_isSubtype_exc hC ?_; first | rw [hcB] | rw [hcA] | rw [hcN]) | wp_step)
  show R _ _
  rw [Heap.size_push]
  exact hq
end
open PySem.W PySem.W.X
noncomputable def clsOf (o : Option Obj) : ClassData := match o with
  | some ⟨_, _, .cls c, _⟩ => c
  | _ => default
noncomputable def slotAt (o : Option Obj) (j : Nat) : Option Value := match o with
  | some o => o.slots.getD j none
  | none => none
noncomputable def bmOf (o : Option Obj) : List Value := (clsOf o).mro.tail
/-- CheckFault stands in the heap as a class of exceptions -/
structure ExcTop (kt : Params → KT) : Prop where
  obj : ∀ P, let o := (kt P).get 100; o = some (excClassObj (clsOf o).name (clsOf o).qualname 100 (clsOf o).ns (clsOf o).bases (bmOf o) (clsOf o).hasDict (clsOf o).slotNames (clsOf o).subclasses (clsOf o).abstract (clsOf o).collection (match o with | some o => o.dict | none => none) (slotAt o 0) (slotAt o 1) (slotAt o 2) (slotAt o 3) (slotAt o 5) "Exception.__new__")
  isExc : ∀ P, (bmOf ((kt P).get 100)).contains (.type "Exception") = true
  noAttr : ∀ P, (bmOf ((kt P).get 100)).contains (.type "AttributeError") = false
  noName : ∀ P, (bmOf ((kt P).get 100)).contains (.type "NameError") = false
noncomputable def excNewUse (σ : Nat → Nat) (m i : Nat) (a b : Value) : Use :=
  ⟨.call (.builtin "Exception.__new__") ⟨[.ref 100, a, b], []⟩, m, i, [], .ok (.ret (.ref (σ (m + 1) + 417))), [(m, tO #[a, b]), (m + 1, ⟨.ref 100, none, .fields #[.ref (σ m + 417), .none, .none, .none, .bool false, .none], #[]⟩)], 2, 0⟩
section
variable {F : Fix} {σ τ : Nat → Nat} {lim : Nat} {us : List Use} {K : Addr → Option Obj} {dr : Drawn} {os : OsState} {m₀ i₀ : Nat}
theorem excNew_use (hX : ExcTop F.kt) (O : VOk (F.vc σ τ lim us K dr os m₀ i₀)) (m i : Nat) (a b : Value) : UseOk (F.vc σ τ lim us K dr os m₀ i₀) (excNewUse σ m i a b) := fun hidx s R D _ n κ _ hk =>
  goodC_of_any fun A _ _ => by
    have hm : m < 65536 := idxOk_head hidx
    have hm1 : m + 1 < 65536 := by
      unfold excNewUse idxOk at hidx
      cases q : Nat.blt m 65536 with
      | false => rw [q] at hidx; cases hidx
      | true =>
        rw [q] at hidx
        exact idxOk_head hidx
    have hC0 := hX.obj F.w.params
    dsimp only at hC0
    have hC := D.old O hC0
    have es : s.heap.objs.size = σ m + 417 := D.size
    have es1 : σ (m + 1) = σ m + 1 := by
      have := O.adr m D.hm
      have e : σ (m + 1) + 417 = σ m + 417 + 1 := this
      omega
    refine codeAny_call_builtin_code (quietF_eq _ (by kernel_rfl)) (check_exc_new PySem.F.excBase_Exception (hX.isExc _) hC (code_exc_new PySem.F.excBase_Exception (hX.isExc _) (hX.noAttr _) (hX.noName _) hC ?_ (show 2 ≤ sizeLine by decide)))
    have D1 := (D.alloc O (o := tO #[a, b]) rfl hm).alloc O (o := ⟨.ref 100, none, .fields #[.ref (σ m + 417), .none, .none, .none, .bool false, .none], #[]⟩) rfl hm1
    have z := hk _ D1
    have er : (excNewUse σ m i a b).r = .ok (.ret (.ref (s.heap.objs.size + 1))) := by
      show Except.ok (Flow.ret (Value.ref (σ (m + 1) + 417))) = _
      rw [es, es1, show σ m + 1 + 417 = σ m + 417 + 1 by omega]
    rw [er] at z
    rw [← es] at z
    exact z
end
end Mine
end
section
set_option maxRecDepth 100000
set_option maxHeartbeats 4000000
namespace Mine
open PySem PySem.W PySem.W.X
/-! the road of an exception: pieces up to the raise -/
noncomputable def fnFd (T : KT) (a : Nat) : FuncData := match T.get a with
  | some o => match o.data with
    | .func fd => fd
    | _ => default
  | none => default
noncomputable def fnBody (T : KT) (a : Nat) : List Stmt := match (fnFd T a).body with
  | .stmts b => b
  | _ => []
noncomputable def fnEnv (T : KT) (a : Nat) (q : Str) (f : Addr) : Env :=
  { scope := (fnFd T a).scope, locals := f, globals := (fnFd T a).globals, cells := (fnFd T a).closure, qual := q, func := some a, code := (fnFd T a).code, frame := some f, builtins := (fnFd T a).builtins }
/-- a call up to its body -/
noncomputable def kFr (fn : Nat) (q : Str) (ks : List Str) (as : Vals → List Value) (n0 : Nat) (N : Nat) : Seg := ⟨0, fun P T σ x => .code (.call (.ref fn) ⟨as x, []⟩), fun _ _ _ => [], [0],
  fun P σ τ x => [frO P ks (rg τ 0 ks.length) (as x) ks.length], fun P T σ τ x => .tree (.pure (.again (.func (fnBody T fn) (fnEnv T fn q (σ 0 + 417))))), 1, ks.length, n0, 80, fun _ => N, fun _ => 0 :: List.replicate (2 * ks.length) 1, fun _ _ _ _ _ => []⟩
noncomputable def qDI : Str := .mk #[100, 101, 99, 108, 97, 114, 101, 95, 105, 110, 104, 101, 114, 105, 116, 101, 100, 46, 60, 108, 111, 99, 97, 108, 115, 62, 46]
noncomputable def qCI : Str := .mk #[99, 111, 117, 110, 116, 95, 105, 109, 112, 108, 105, 99, 105, 116, 46, 60, 108, 111, 99, 97, 108, 115, 62, 46]
noncomputable def qRf : Str := .mk #[114, 101, 102, 117, 115, 101, 46, 60, 108, 111, 99, 97, 108, 115, 62, 46]
noncomputable def nScope : Str := .mk #[115, 99, 111, 112, 101]
noncomputable def kDIa : List Str := [nScope, .mk #[111, 116, 104, 101, 114], .mk #[116], .mk #[112, 97, 114, 101, 110, 116]]
noncomputable def kDIb : List Str := [.mk #[107, 101, 121], .mk #[105, 115, 95, 109, 97, 107, 101, 114]]
noncomputable def nCounts : Str := .mk #[99, 111, 117, 110, 116, 115]
noncomputable def nText : Str := .mk #[116, 101, 120, 116]
noncomputable def tooMany : Str := .mk #[116, 111, 111, 32, 109, 97, 110, 121, 32, 105, 110, 104, 101, 114, 105, 116, 101, 100, 32, 115, 117, 98, 112, 114, 111, 103, 114, 97, 109, 115, 32, 97, 110, 100, 32, 108, 105, 116, 101, 114, 97, 108, 115]
noncomputable def kXa : Seg := kFr 314 qDI kDIa (fun x => [.ref (x.r 0), .ref (x.r 1), .ref (x.r 2), .ref (x.r 3)]) 40 19
noncomputable def kXb : Seg := kFr 307 qCI [nScope] (fun x => [.ref (x.r 0)]) 50 7
noncomputable def kXc : Seg := kFr 109 qRf [nScope, nText] (fun x => [.ref (x.r 0), .str tooMany (x.t 0)]) 60 11
/-- what a function does with an exception that leaves it -/
noncomputable def finR : Flow → Sem Fin
  | .ret v => .pure (.done (.ret v))
  | _ => .pure (.done (.ret .none))
noncomputable def outT (env : Env) (e : Value) : Sem Fin := bnd (bnd (leavF env e) fun _ => (.raise e : Sem Flow)) finR
/-- and a loop -/
noncomputable def loopX (T : KT) (a : Addr) (e : Value) : Sem Fin := bnd (bnd (noteF e (lawEnv T a)) fun _ => lotF e) fun _ => .raise e
/-- a turn of the third loop up to declare_inherited -/
noncomputable def kX1 (d : Do) (told : Bool) (r : Row) (m : Nat) (W g : Nat → Nat) (X M S Q X3 : Vals) : SegE := ⟨⟨30, fun P T σ x => .tree (denR (loopC3 T (.ref (σ 0 + 417)) (σ 3 + 417))), fun P σ x => itO (σ 1 + 417) (Int.ofNat m) :: j3 d.tg told r W g X M S Q X3 P σ x, List.range 30,
  fun P σ τ x => itO (σ 1 + 417) (Int.ofNat m + 1) :: j3 d.tg told r W g X M S Q X3 P σ (nF r σ x), fun _ _ _ _ _ => .res (.ok .next), 3, 4, 30, 60, fun _ => 111, fun _ => s3d.dropLast, fun P T σ τ x => [itUse σ 30 0 0 1 (X3.a 0) (X3.n 100) m (σ 2 + 417)]⟩,
  fun P T σ τ x => .call (.ref 314) ⟨[rf (σ 20), rf (σ 4), rf (σ 18), rf (σ 16)], []⟩, fun P T σ τ x e => loopX T (σ 3 + 417) e⟩
/-- declare_inherited's frame -/
noncomputable def frD (P : Params) (t : Nat → Tok) (σ : Nat → Nat) : Obj := frO P kDIa (rg t 0 4) [rf (σ 16), rf (σ 0), rf (σ 14), rf (σ 12)] 4
noncomputable def frD2 (P : Params) (t u : Nat → Tok) (r : Row) (σ : Nat → Nat) : Obj := frO P (kDIa ++ kDIb) (rg t 0 4 ++ [u 2, u 10]) [rf (σ 16), rf (σ 0), rf (σ 14), rf (σ 12), .str r.op (r.w 75), .bool r.gives] 6
noncomputable def lX2 (tg gives : Bool) : Nat := match tg, gives with | true, true => 173 | true, false => 149 | false, _ => 148
noncomputable def NX2 (tg gives : Bool) : Nat := match tg, gives with | true, true => 266 | true, false => 224 | false, _ => 221
noncomputable def kX2 (tg : Bool) (r : Row) (W g : Nat → Nat) (X M S Q : Vals) (x : Vals) : SegE := ⟨⟨27, fun P T σ y => .tree (funcR (fnBody T 314) (fnEnv T 314 qDI (σ 26 + 417))), fun P σ y => jD P tg r W g X M S Q σ x ++ [frD P y.t σ], List.range 27,
  fun P σ τ y => jD P tg r W g X M S Q σ x ++ [frD2 P y.t τ r σ], fun _ _ _ _ _ => .res (.ok .next), match mk3 tg r.gives with | true => 1 | false => 0, match mk3 tg r.gives with | true => 18 | false => 12, 40, 68, fun _ => NX2 tg r.gives, fun _ => ((sD tg r.has r.gives).drop 9).take (lX2 tg r.gives),
  fun P T σ τ y => (match r.gives with
    | true => cmpUse "int.__eq__" 27 10 (.int 71 (X.t 49)) (.int 71 (X.t 49)) true
    | false => cmpUse "int.__eq__" 27 10 (.int 61 (X.t 24)) (.int 71 (X.t 49)) false) :: (match mk3 tg r.gives with
    | true => [(kSp r.has r.k).use P T σ τ 27 13 [] (vals [r.w 75, τ 12] [] [] [] [] [] [] [] [] [] []), cmpUse "str.__ne__" 28 18 (.str (nm r.k) (τ 13)) (.str (nm r.k) (r.t 63)) false]
    | false => [])⟩,
  fun P T σ τ y => .call (.ref 307) ⟨[rf (σ 16)], []⟩, fun P T σ τ y e => outT (fnEnv T 314 qDI (σ 26 + 417)) e⟩
noncomputable def sX3 : List Nat := [8,1,0,0,0,0,1,0,0,0,1,1,0,2,3,0,0,0,0,3,0,0,0,3,3,0,4,0,5,0,0,0,0,5,0,0,0,5,5,0,6,0,8,8,8,7,7,7,7,0,1,0,8,0,7,7,2,8,0,7,7,7,3,0,4,0,8,0]
noncomputable def frC (P : Params) (t u : Nat → Tok) (σ : Nat → Nat) : Obj := frO P [nScope, nCounts] [t 0, u 3] [rf (σ 0), rf (σ 6)] 2
noncomputable def kX3 : SegE := ⟨⟨8, fun P T σ x => .tree (funcR (fnBody T 307) (fnEnv T 307 qCI (σ 7 + 417))), fun P σ x => kCnt_ins P σ x ++ [frO P [nScope] [x.t 50] [rf (σ 0)] 1], List.range 8,
  fun P σ τ x => [inst 331 (σ 1 + 417), nth (kCnt_ins P σ x) 1, inst 141 (σ 3 + 417), nth (kCnt_ins P σ x) 3, inst 141 (σ 5 + 417), nth (kCnt_ins P σ x) 5, dO (setE (x.e 0) inhS (.int (x.i 0 + 1) (τ 7))) (x.n 0), frC P (fun _ => x.t 50) τ σ],
  fun _ _ _ _ _ => .res (.ok .next), 0, 11, 50, 80, fun _ => 118, fun _ => sX3, fun P T σ τ x => [
  dget3Use σ 8 5 6 (x.e 0) (x.n 0) inhS 636 (.int (0) (τ 4)) (.int (x.i 0) (x.t 43)),
  doldUse σ 8 8 6 (x.e 0) (x.n 0) inhS 636 (.int (x.i 0 + 1) (τ 7)),
  ditemUse σ 8 9 6 (setE (x.e 0) inhS (.int (x.i 0 + 1) (τ 7))) (x.n 0) inhS 636 (.int (x.i 0 + 1) (τ 7)),
  cmpUse "int.__gt__" 8 10 (.int (x.i 0 + 1) (τ 7)) (.int (20000) 638) true]⟩,
  fun P T σ τ x => .call (.ref 109) ⟨[rf (σ 0), .str tooMany (τ 10)], []⟩, fun P T σ τ x e => outT (fnEnv T 307 qCI (σ 7 + 417)) e⟩
noncomputable def sX4 : List Nat := [0,3,1,0,0,0,0,1,0,0,0,1,1,0,2,3,0,0,0,0,0,0,0,0,0,1,5,0,5,0,0,0,0,0,0,6,6,6,6,6,6,0,0,0,0,0,0,0,0,0,0,0,6,6,0,0,0,7,7,7,7,0,0,0,7,7,0,5,0,5,0,5,5,5,7,7,5,0,0,0,0,0,0,5,0,5,0,5,0,0,0,0,0,5,0,5,9,9,9,6,6,5,0,0,0,0,0,0,5,0,5,0,5,0,0,0,0,0,5,0,9,9,9,5,5,0,5,5,0,5,5]
noncomputable def excO (σ : Nat → Nat) : Obj := ⟨.ref 100, some (σ 8 + 417), .fields #[.ref (σ 7 + 417), .none, .none, .none, .bool false, .none], #[]⟩
noncomputable def kX4 (S : Vals) : Seg := ⟨3, fun P T σ x => .tree (funcR (fnBody T 109) (fnEnv T 109 qRf (σ 2 + 417))), fun P σ x => [inst 331 (σ 1 + 417), scD P S (.ref (x.r 0)), frO P [nScope, nText] [x.t 0, x.t 1] [rf (σ 0), .str tooMany (x.t 2)] 2], [0, 1, 2, 4],
  fun P σ τ x => [inst 331 (σ 1 + 417), scD P S (.ref (x.r 0)), frO P [nScope, nText] [x.t 0, x.t 1] [rf (σ 0), .str tooMany (x.t 2)] 2, excO σ], fun P T σ τ x => .tree (outT (fnEnv T 109 qRf (σ 2 + 417)) (rf (σ 4))), 6, 12, 60, 80, fun _ => 209, fun _ => sX4, fun P T σ τ x => [excNewUse σ 3 1 (.int 1 (S.t 11)) (.str tooMany (x.t 2))]⟩
end Mine
end
section
set_option maxRecDepth 100000
set_option maxHeartbeats 4000000
namespace Mine
open PySem PySem.W PySem.W.X
/-- what is known of the stack, with its frames -/
noncomputable def aroundL (Γ : Ctx) (l : List Env) : Around := ⟨Γ.handled, frameCount Γ.below + Γ.code.weight, some l, none, Γ.units⟩
theorem in_aroundL {Γ : Ctx} {l : List Env} (h : Γ.code.envs ++ envsOf Γ.below = l) : Γ.In (aroundL Γ l) :=
  ⟨rfl, Nat.le_refl _, fun l' e => by injection e with e; rw [← e]; exact h, fun g e => (nomatch e), Nat.le_refl _⟩
theorem good_den {prog : Program} {w : World} {n : Nat} {W : Ctx → Prop} {P : Result → Shared → Prop} {c : Code} {s : Shared} (hn : n < 90)
    (h : Good (model prog w) n none (.base (fun Γ => W Γ ∧ Γ.code = c) P) (denR c) s) : GoodC (model prog w) n none (.base W P) c s := fun Γ p o w hc => by
  rw [wpCode_iff_wp, hc]
  exact denR_rl c (model prog _) n none Γ _ _ p s o hn (h Γ p o ⟨w, hc⟩)
section
variable {M : Model} {n : Nat} {W : Ctx → Prop} {P : Result → Shared → Prop} {s : Shared} {base : Heap} {env : Env} {outer : List Env} {L e : Addr} {a0 cls : Value}
theorem leave_wp {Q : Unit → Shared → Prop} {t : Sem Unit} (hW : ∀ Γ, W Γ → Γ.code.envs ++ envsOf Γ.below = env :: outer)
    (hl : ∀ A : Around, A.frames = some (env :: outer) → wpAny M A t Q (fun _ _ => False) s) (v : Value) (hk : ∀ s', Q () s' → P (.error v) s') : Good M n none (.base W P) (bnd (bnd t fun _ => (.raise v : Sem Flow)) finR) s := fun Γ p o w => by
  simp only [bnd_eq, Sem.wp_bind]
  refine Sem.wp_mono M Γ _ (fun _ p' s' q => ?_) (fun _ _ _ q => q.elim) p s (hl (aroundL Γ (env :: outer)) rfl Γ p (in_aroundL (hW Γ w)))
  exact hk s' q
/-- an exception leaves the function that has raised it -/
theorem leave_first {oe : Obj} {vs : Array Value} (hW : ∀ Γ, W Γ → Γ.code.envs ++ envsOf Γ.below = env :: outer) (hl : s.heap.FunFrames base (env :: outer)) (hf : env.frame = some L)
    (he : s.heap.get? e = some oe) (hkb : base.StaysIn s.heap) (hen : base.get? e = none) (hd : oe.data = .fields vs) (h1 : vs[1]? = some .none) (h0 : vs[0]? = some a0)
    (hk : ∀ h', Heap.FlyingW base outer e oe.cls a0 h' → s.heap.UpToSlots h' → P (.error (.ref e)) { s with heap := h' }) : Good M n none (.base W P) (outT env (.ref e)) s := by
  unfold outT
  refine leave_wp (Q := fun _ s' => P (.error (.ref e)) s') hW (fun A hfr => ?_) _ (fun _ q => q)
  rw [leavF_eq]
  refine wpAny_leaving_firstW hfr hl hf he hkb hen hd h1 h0 fun h' hL => ?_
  obtain ⟨k1, ⟨_, _, k2⟩, k3, k4⟩ := hL
  exact hk h' ⟨k1, hen, k2, k3⟩ k4
/-- and a function that it passes -/
theorem leave_next (hW : ∀ Γ, W Γ → Γ.code.envs ++ envsOf Γ.below = env :: outer) (hf : env.frame = some L) (hfl : Heap.FlyingW base (env :: outer) e cls a0 s.heap)
    (hk : ∀ h', Heap.FlyingW base outer e cls a0 h' → s.heap.UpToSlots h' → P (.error (.ref e)) { s with heap := h' }) : Good M n none (.base W P) (outT env (.ref e)) s := by
  unfold outT
  refine leave_wp (Q := fun _ s' => P (.error (.ref e)) s') hW (fun A hfr => ?_) _ (fun _ q => q)
  rw [leavF_eq]
  exact wpAny_leaves_onW hfr hf hfl hk
end
end Mine
end
section
set_option maxRecDepth 100000
set_option maxHeartbeats 4000000
namespace Mine
open PySem PySem.W PySem.W.X
section
variable {M : Model} {A : Around} {E : Value → Shared → Prop} {s : Shared}
theorem setFlight_to {base : Heap} {l : List Env} {e L : Addr} {cls a0 fl : Value} {Q : Unit → Shared → Prop}
    (hkb : base.StaysIn s.heap) (hl : s.heap.FunFrames base l) (ht : s.heap.TracedAtW base e cls a0 fl)
    (h : ∀ h', base.StaysIn h' → h'.FunFrames base l → h'.TracedAtW base e cls a0 (rawInt L) → (∀ b o, s.heap.get? b = some o → (∀ vs, o.data ≠ .fields vs) → h'.get? b = some o) → Q () { s with heap := h' }) :
    wpAny M A (setFlight (.ref e) (some L)) Q E s := by
  obtain ⟨oe, vs, T, oT, ts, he, hcls, hd, h1, hnT, hTe, hT, hdT, h3⟩ := ht
  have hsz3 : 3 < ts.size := (Array.getElem?_eq_some_iff.mp h3).1
  have other : ∀ b, b ≠ T → (s.heap.update T (Obj.mapFields (·.setIfInBounds 3 ((some L).elim Value.none fun f => rawInt f)))).get? b = s.heap.get? b :=
    fun b hb => Heap.get?_update_other _ _ (Ne.symm hb)
  have noRecord : ∀ b o, s.heap.get? b = some o → (∀ vs, o.data ≠ .fields vs) → b ≠ T := fun b o hb hnf q => by
    rw [q, hT] at hb; injection hb with hb; subst hb; exact hnf ts hdT
  unfold setFlight
  refine wpAny_bind (wpAny_field he hd h1 ?_)
  rw [if_pos (show (Value.ref T != Value.none) = true from by simp)]
  refine wpAny_setField hT hdT hsz3 (h _ (fun b o hbo => (other b fun q => by rw [q, hnT] at hbo; cases hbo).trans (hkb b o hbo))
    (hl.of_keeps fun b o hb hnf => ⟨o, (other b (noRecord b o hb hnf)).trans hb, rfl⟩) ?_ fun b o hb hnf => (other b (noRecord b o hb hnf)).trans hb)
  exact ⟨oe, vs, T, _, _, (other e (Ne.symm hTe)).trans he, hcls, hd, h1, hnT, hTe, Heap.get?_update_self _ hT (Obj.isFreed_of_fields (Obj.data_mapFields hdT _)), Obj.data_mapFields hdT _, by simp [hsz3]⟩
/-- what a loop's own activation does with it -/
theorem own_held {base : Heap} {env : Env} {l : List Env} {e L : Addr} {cls a0 : Value} {Q : Unit → Shared → Prop} (hf : env.frame = some L) (hh : Heap.HeldW base l e cls a0 L s.heap)
    (hQ : ∀ h', Heap.HeldW base l e cls a0 L h' → s.heap.UpToSlots h' → Q () { s with heap := h' }) : wpAny M A (ownH env (.ref e)) Q E s := by
  obtain ⟨f1, f2, f3, f4⟩ := id hh
  obtain ⟨oe, vs, T, oT, ts, he, hcls, hd, h1, _⟩ := id f4
  rw [ownH_eq]
  refine wpAny_bind (wpAny_field he hd h1 ?_)
  rw [if_neg (by simp)]
  rw [hf]
  exact setFlight_to f1 f3 f4 fun h' k1 k2 k3 k4 => hQ h' ⟨k1, f2, k2, k3⟩ fun b o hb hn => ⟨o.slots, k4 b o hb hn⟩
end
section
variable {M : Model} {n : Nat} {W : Ctx → Prop} {P : Result → Shared → Prop} {s : Shared} {base : Heap} {env : Env} {outer : List Env} {L e : Addr} {a0 cls : Value}
/-- an exception passes the loop -/
theorem loop_pass {T : KT} {a : Addr} (hW : ∀ Γ, W Γ → Γ.code.envs ++ envsOf Γ.below = lawEnv T a :: outer) (hfl : Heap.FlyingW base (lawEnv T a :: outer) e cls a0 s.heap)
    (hk : ∀ h', Heap.HeldW base (lawEnv T a :: outer) e cls a0 a h' → s.heap.UpToSlots h' → P (.error (.ref e)) { s with heap := h' }) : Good M n none (.base W P) (loopX T a (.ref e)) s := fun Γ p o w => by
  unfold loopX
  simp only [bnd_eq, noteF_eq, lotF_eq, Sem.wp_bind]
  have z : wpAny M (aroundL Γ (lawEnv T a :: outer)) (noteFrame (.ref e) (lawEnv T a)) (fun _ s' => wpAny M (aroundL Γ (lawEnv T a :: outer)) (theTreesLotGoes (.ref e)) (fun _ s'' => P (.error (.ref e)) s'') (fun _ _ => False) s') (fun _ _ => False) s :=
    wpAny_looks_onW rfl rfl hfl fun h' h1 h2 => wpAny_theTreesLotGoes (hk h' h1 h2)
  refine Sem.wp_mono M Γ _ (fun _ p' s' q => ?_) (fun _ _ _ q => q.elim) p s (z Γ p (in_aroundL (hW Γ w)))
  exact Sem.wp_mono M Γ _ (fun _ p'' s'' q => q) (fun _ _ _ q => q.elim) p' s' (q Γ p' (in_aroundL (hW Γ w)))
end
end Mine
end
section
set_option maxRecDepth 100000
set_option maxHeartbeats 4000000
namespace Mine
open PySem PySem.W PySem.W.X
noncomputable def handF : Value → Env → List ExceptHandler → Sem Flow := Fast.tw14206642085496868694
theorem handF_eq : handF = handleBy := by unfold handF; rw [← Fast.te14206642085496868694]
/-- the law where the handlers are looked at -/
noncomputable def handT (T : KT) (e : Value) (a : Addr) : Sem Fin := bnd (onR (bnd (bnd (handF e (lawEnv T a) (tryHs (stAt (lawBody T) 16))) fun f => match f with
    | .next => .pure .next
    | f => .pure f) fun f => match f with
  | .next => execsR ((lawBody T).drop 17) (lawEnv T a)
  | f => .pure f) (leavF (lawEnv T a))) fun f => match f with
  | .ret v => .pure (.done (.ret v))
  | _ => .pure (.done (.ret .none))
section
variable {M : Model} {n : Nat} {W : Ctx → Prop} {P : Result → Shared → Prop} {s : Shared} {base : Heap} {outer : List Env} {e : Addr} {a0 cls : Value}
theorem err_hand {T : KT} {a : Addr} (hW : ∀ Γ, W Γ → Γ.code.envs ++ envsOf Γ.below = lawEnv T a :: outer) (hh : (tryHs (stAt (lawBody T) 16)).isEmpty = false) (hfl : Heap.HeldW base (lawEnv T a :: outer) e cls a0 a s.heap)
    (hk : ∀ h', Heap.FlyingW base (lawEnv T a :: outer) e cls a0 h' → s.heap.UpToSlots h' → Good M n none (.base W P) (handT T (.ref e) a) { s with heap := h' }) : Good M n none (.base W P) (errT T (.ref e) a) s := fun Γ p o w => by
  have hA := in_aroundL (hW Γ w)
  unfold errT T3of ownR
  simp only [bnd_eq, onR_eq, tryF_eq, execsF_eq, Sem.wp_bind, Sem.wp_onRaise]
  unfold tryStmt
  simp only [List.isEmpty_nil, if_true]
  rw [Sem.wp_bind', Sem.wp_attempt, Sem.wp_bind, Sem.wp_onRaise, Sem.wp_raise]
  refine Sem.wp_mono M Γ _ (fun _ p1 s1 q => ?_) (fun _ _ _ q => q.elim) p s ((own_held (E := fun _ _ => False) (Q := fun _ s1 => ∃ h', s1 = { s with heap := h' } ∧ Heap.HeldW base (lawEnv T a :: outer) e cls a0 a h' ∧ s.heap.UpToSlots h') rfl hfl (fun h' k1 k2 => ⟨h', rfl, k1, k2⟩)) Γ p hA)
  obtain ⟨h1, rfl, k1, k2⟩ := q
  dsimp only
  rw [hh]
  simp only [Bool.false_eq_true, if_false, Bool.false_and]
  rw [Sem.wp_bind']
  refine Sem.wp_mono M Γ _ (fun _ p2 s2 q => ?_) (fun _ _ _ q => q.elim) p1 _ ((wpAny_noteFrame_againW (s := { s with heap := h1 }) (E := fun _ _ => False) (Q := fun _ s2 => s2 = { s with heap := h1 }) rfl k1.2.2.2 rfl) Γ p1 hA)
  subst q
  rw [Sem.wp_bind']
  refine Sem.wp_mono M Γ _ (fun _ p3 s3 q => ?_) (fun _ _ _ q => q.elim) p2 _ ((wpAny_landsW (s := { s with heap := h1 }) (E := fun _ _ => False) (Q := fun _ s3 => ∃ h', s3 = { s with heap := h' } ∧ Heap.FlyingW base (lawEnv T a :: outer) e cls a0 h' ∧ h1.UpToSlots h') k1 (fun h' k1 k2 => ⟨h', rfl, k1, k2⟩)) Γ p2 hA)
  obtain ⟨h2, rfl, k3, k4⟩ := q
  have z := hk h2 k3 (k2.trans k4) Γ p3 o w
  unfold handT at z
  simp only [bnd_eq, onR_eq, handF_eq, Sem.wp_bind, Sem.wp_onRaise] at z
  exact z
end
end Mine
end
section
set_option maxRecDepth 100000
set_option maxHeartbeats 4000000
namespace Mine
open PySem PySem.W PySem.W.X
noncomputable def suiteOf (h : List ExceptHandler) : List ExceptHandler := match h with
  | .ExceptHandler _ name body pos :: _ => [.ExceptHandler none name body pos]
  | [] => []
noncomputable def suiteB (h : List ExceptHandler) : List Stmt := match h with
  | .ExceptHandler _ _ body _ :: _ => body
  | [] => []
noncomputable def lawHs (T : KT) : List ExceptHandler := tryHs (stAt (lawBody T) 16)
noncomputable def frY (told : Bool) (sl : Array (Option Value)) (P : Params) (due regs : Nat) (cnt : Int) (y : Vals) : Obj := { frN P (ksD told) y.t (fun j => match j with | 3 => rf regs | 19 => rf due | 22 => .int cnt (y.t 60) | j => y.v j) with slots := sl }
/-- the first clause's test -/
noncomputable def kY0 (told : Bool) (sl sl1 : Array (Option Value)) (d1 : Option Addr) (vs : Array Value) : SegK := ⟨⟨2, fun P T σ y => .tree (handT T (.ref (σ 1 + 417)) (σ 0 + 417)), fun P σ y => [frY told sl P (y.r 0) (y.r 1) (y.i 0) y, ⟨.ref 100, d1, .fields vs, sl1⟩], [0, 1], fun P σ τ y => [frY told sl P (y.r 0) (y.r 1) (y.i 0) y, ⟨.ref 100, d1, .fields vs, sl1⟩],
  fun _ _ _ _ _ => .res (.ok .next), 0, 0, 20, 60, fun _ => 11, fun _ => [0, 0, 0, 0, 0, 2, 0], fun _ _ _ _ _ => []⟩,
  fun P T σ τ y => .handlers (rf (σ 1)) (suiteOf (lawHs T)) (lawEnv T (σ 0 + 417)), fun P T σ τ y => rf (σ 1), fun P T σ τ y v => .pure (.done (.ret v))⟩
/-- the suite -/
noncomputable def suiteT (T : KT) (a : Addr) : Sem Fin := bnd (onR (execsF (suiteB (lawHs T)) (lawEnv T a)) fun x => bnd (noteF x (lawEnv T a)) fun _ => lotF x) fun f => (.pure (.done f) : Sem Fin)
noncomputable def sY : List Nat := [1,0,0,1,0,2,0,2,2,0,0,0,0,0,1,3,3,3,0,3,3,4,0,0,0,0,4,0,0,0,4,4,0,5,0,0,6,0,6,6,0,1,0,0]
noncomputable def refsY (f : Nat → Nat) (n : Nat) : Array Value := ((List.range n).map fun j => rf (f j)).toArray
noncomputable def insY (told : Bool) (sl : Array (Option Value)) (cnt : Int) (nd no : Nat) (f g : Nat → Nat) (Q : Vals) (P : Params) (σ : Nat → Nat) (y : Vals) : List Obj :=
  [frY told sl P (σ 1) (σ 2) cnt y, lO (refsY f nd) (y.n 101), lO #[.ref (y.r 2), rf (σ 3)] 2, inst 141 (σ 4 + 417), qD P Q (y.r 0) (y.r 1) (σ 5), lO (refsY g no) (y.n 102)]
noncomputable def kY (told : Bool) (sl : Array (Option Value)) (cnt : Int) (nd no : Nat) (f g : Nat → Nat) (Q : Vals) : Seg := ⟨6, fun P T σ y => .tree (suiteT T (σ 0 + 417)), insY told sl cnt nd no f g Q, List.range 6, fun P σ τ y => insY told sl cnt nd no f g Q P σ y, fun P T σ τ y => .res (.ok (.ret (.bool true))), 0, 8, 30, 60, fun _ => 120, fun _ => sY, fun _ _ _ _ _ => []⟩
noncomputable def Seg.RunH (S : Seg) (kt : Params → KT) : Prop := ∀ (e : Value) (P : Params) (b c : Bool) (σ τ : Nat → Nat) (x : Vals) (W : Ctx → Prop) (Q : Result → Shared → Prop), S.RunAt (some e) kt P b c σ τ x W Q
/-- the kinds of the end by refusal -/
noncomputable def RY (kt : Params → KT) : Prop := ∀ told sl f g Q, (∀ nd, 1 ≤ nd → nd ≤ 4 → (kY told sl 20000 nd 0 f g Q).RunH kt) ∧ ∀ nd, 2 ≤ nd → nd ≤ 4 → (kY told sl 19999 nd 1 f g Q).RunH kt
end Mine
end
section
set_option maxRecDepth 100000
set_option maxHeartbeats 4000000
namespace Mine
open PySem PySem.W PySem.W.X
/-- a heap without some of its objects -/
noncomputable def woH (h : Heap) (S : List Nat) : Heap := ⟨h.objs.mapIdx fun i o => match S.contains i with | true => { o with data := .freed } | false => o, h.life⟩
theorem woH_get (h : Heap) (S : List Nat) (b : Addr) : (woH h S).get? b = match S.contains b with | true => none | false => h.get? b := by
  unfold Heap.get? woH
  simp only [Array.getElem?_mapIdx]
  cases q : h.objs[b]? with
  | none => cases S.contains b <;> rfl
  | some o =>
    cases c : S.contains b with
    | true => simp only [Option.map_some, c]
    | false => simp only [Option.map_some, c]
theorem woH_stays (h : Heap) (S : List Nat) : (woH h S).StaysIn h := fun b o e => by
  rw [woH_get] at e
  cases c : S.contains b with
  | true => rw [c] at e; cases e
  | false => rw [c] at e; exact e
theorem woH_none {h : Heap} {S : List Nat} {b : Addr} (hb : b ∈ S) : (woH h S).get? b = none := by
  rw [woH_get, List.contains_iff_mem.mpr hb]
/-- the ledger behind the flight of an exception -/
theorem Hp.flown {K : Addr → Option Obj} {dr : Drawn} {os : OsState} {s : Shared} {z f e : Nat} {fo oe : Obj} {L L' : List (Nat × Obj)} {S : List Nat} {h' : Heap} (D : Hp K dr os s z ((f, fo) :: L)) (hL : L'.Sublist L) (hS : ∀ a ∈ S, K a = none) (hL' : ∀ p ∈ L', p.1 + 417 ∉ S)
    (he : e + 417 ∈ S) (hfe : f ≠ e) (hd : ∀ vs, fo.data ≠ .fields vs) (hst : (woH s.heap S).StaysIn h') (hup : s.heap.UpToSlots h') (hoe : h'.get? (e + 417) = some oe) :
    ∃ sl, Hp K dr os { s with heap := h' } (h'.objs.size - 417) ((f, { fo with slots := sl }) :: (e, oe) :: L') := by
  have own0 := D.own (f, fo) List.mem_cons_self
  obtain ⟨sl, hf⟩ := hup (f + 417) fo own0.2 hd
  have stay : ∀ b o, b ∉ S → s.heap.get? b = some o → h'.get? b = some o := fun b o hb e => hst b o (by
    rw [woH_get]
    have : S.contains b = false := by
      cases c : S.contains b with
      | false => rfl
      | true => exact absurd (List.contains_iff_mem.mp c) hb
    rw [this]; exact e)
  have nd := D.nd
  simp only [List.map_cons, List.nodup_cons] at nd
  refine ⟨sl, D.gens, D.drawn, D.os, fun b o q => ?_, ?_, fun p hp => ?_, ?_⟩
  · refine stay b o (fun hb => ?_) (D.keep b o q)
    rw [hS b hb] at q; cases q
  · have : f + 417 < h'.objs.size := Heap.lt_size hf
    show h'.objs.size = h'.objs.size - 417 + 417
    omega
  · rcases List.mem_cons.mp hp with rfl | hp
    · exact ⟨own0.1, hf⟩
    rcases List.mem_cons.mp hp with rfl | hp
    · exact ⟨hS _ he, hoe⟩
    · have o := D.own p (List.mem_cons_of_mem _ (hL.subset hp))
      exact ⟨o.1, stay _ _ (hL' p hp) o.2⟩
  · simp only [List.map_cons, List.nodup_cons, List.mem_cons, not_or]
    refine ⟨⟨hfe, fun h => nd.1 ((hL.map _).subset h)⟩, fun h => ?_, nd.2.sublist (hL.map _)⟩
    obtain ⟨p, hp, rfl⟩ := List.mem_map.mp h
    exact hL' p hp he
end Mine
end
section
set_option maxRecDepth 100000
set_option maxHeartbeats 4000000
namespace Mine
open PySem PySem.W PySem.W.X
noncomputable def posH (h : List ExceptHandler) : Pos := match h with
  | .ExceptHandler _ _ _ pos :: _ => pos
  | [] => default
section
variable {prog : Program} {w : World} {n : Nat} {W : Ctx → Prop} {P : Result → Shared → Prop} {s : Shared} {base : Heap} {l : List Env} {e : Addr} {a0 cls : Value} {hd : Option Value}
theorem good_suite {T : KT} {a : Addr} (hH : suiteOf (lawHs T) = [.ExceptHandler none none (suiteB (lawHs T)) (posH (lawHs T))]) (hfl : Heap.FlyingW base l e cls a0 s.heap)
    (hk : ∀ h', base.StaysIn h' → (∀ b o, s.heap.get? b = some o → (∀ vs, o.data ≠ .fields vs) → h'.get? b = some o) → Good (model prog w) n hd (.base W P) (suiteT T a) { s with heap := h' }) :
    GoodC (model prog w) n hd (.base W P) (.handlers (.ref e) (suiteOf (lawHs T)) (lawEnv T a)) s := fun Γ p o hw hc => by
  rw [wpCode_iff_wp, hc, hH]
  show Sem.wp _ Γ (do return PySem.Fin.done (← (handleWith (.ref e) (lawEnv T a) [.ExceptHandler none none (suiteB (lawHs T)) (posH (lawHs T))]).onRaise (fun x => do noteFrame x (lawEnv T a); theTreesLotGoes x))) _ _ p s
  rw [Sem.wp_bind', Sem.wp_onRaise]
  show Sem.wp _ Γ (Sem.at (posH (lawHs T)) fun _ => (setFlight (.ref e) none).bind fun _ => execs (suiteB (lawHs T)) (lawEnv T a)) _ _ p s
  rw [Sem.wp_at, Sem.wp_bind]
  obtain ⟨f1, f2, f3, f4⟩ := id hfl
  refine Sem.wp_mono _ Γ _ (fun _ p3 s3 q => ?_) (fun _ _ _ q => q.elim) _ _ ((wpAny_setFlight_noneW (A := aroundOf Γ) (E := fun _ _ => False) (Q := fun _ s3 => ∃ h', s3 = { s with heap := h' } ∧ base.StaysIn h' ∧ ∀ b o, s.heap.get? b = some o → (∀ vs, o.data ≠ .fields vs) → h'.get? b = some o) f1 f3 f4 (fun h' k1 _ _ k4 => ⟨h', rfl, k1, k4⟩)) Γ _ (in_around Γ))
  obtain ⟨h', rfl, k1, k4⟩ := q
  have z := hk h' k1 k4 Γ p3 o hw
  unfold suiteT at z
  simp only [bnd_eq, onR_eq, execsF_eq, noteF_eq, lotF_eq, Sem.wp_bind, Sem.wp_onRaise] at z
  simp only [Sem.wp_bind']
  exact z
end
end Mine
end
section
set_option maxRecDepth 100000
set_option maxHeartbeats 4000000
namespace Mine
open PySem PySem.W PySem.W.X
open Classical in
noncomputable def butK (h : Heap) (S : List Nat) (b : Addr) : Option Obj := if b ∈ S then none else h.get? b
theorem KOk.sup {F : Fix} {K K1 : Addr → Option Obj} (h : KOk F K) (k : ∀ b o, K b = some o → K1 b = some o) : KOk F K1 := ⟨fun a o e => k a o (h.kt a o e), fun hp e => h.nolimit hp fun b o q => e b o (k b o q)⟩
section
variable {F : Fix} {K : Addr → Option Obj} {dr : Drawn} {os : OsState} {s : Shared} {z n : Nat} {W : Ctx → Prop} {P : Result → Shared → Prop} {base : Heap} {l : List Env} {a0 : Value}
noncomputable def lY (P : Params) (Q : Vals) (due regs q qd qo nd no n1 n2 r2 r0 r1 : Nat) (fd fg : Nat → Nat) : List (Nat × Obj) :=
  [(due, lO (refsY fd nd) n1), (regs, lO #[.ref r2, rf q] 2), (q, inst 141 (qd + 417)), (qd, qD P Q r0 r1 qo), (qo, lO (refsY fg no) n2)]
theorem hand_good {told : Bool} {f e due regs q qd qo nd no n1 n2 r2 r0 r1 : Nat} {fd fg : Nat → Nat} {y Q : Vals} {cnt : Int} {sl sl1 : Array (Option Value)} {d1 : Option Addr} {vs : Array Value}
    (hR0 : ∀ told sl sl1 d1 vs, (kY0 told sl sl1 d1 vs).Run F.kt) (hRY : RY F.kt) (H : F.Ok) (HK : KOk F K) (hn : n ≤ 20) (hH : suiteOf (lawHs F.T) = [.ExceptHandler none none (suiteB (lawHs F.T)) (posH (lawHs F.T))])
    (kind : (cnt = 20000 ∧ no = 0 ∧ 1 ≤ nd ∧ nd ≤ 4) ∨ (cnt = 19999 ∧ no = 1 ∧ 2 ≤ nd ∧ nd ≤ 4))
    (hKb : ∀ b o, K b = some o → base.get? b = some o) (hbf : base.get? (f + 417) = none) (hbe : base.get? (e + 417) = none) (hfl : Heap.FlyingW base l (e + 417) (.ref 100) a0 s.heap)
    (D : Hp K dr os s z ((f, frY told sl F.P due regs cnt y) :: (e, ⟨.ref 100, d1, .fields vs, sl1⟩) :: lY F.P Q due regs q qd qo nd no n1 n2 r2 r0 r1 fd fg))
    (hend : ∀ s' z' L', Hp K dr os s' z' L' → P (.ok (.ret (.bool true))) s') : Good F.M n none (.base W P) (handT F.T (rf e) (f + 417)) s := by
  let K1 : Addr → Option Obj := butK s.heap [f + 417, e + 417]
  have nd0 := D.nd
  simp only [List.map_cons, List.nodup_cons, List.mem_cons, not_or] at nd0
  have own := D.own
  have ofr := own _ List.mem_cons_self
  have oex := own _ (List.mem_cons_of_mem _ List.mem_cons_self)
  have k1 : ∀ b o, K b = some o → K1 b = some o := fun b o h => by
    show (if b ∈ [f + 417, e + 417] then none else s.heap.get? b) = some o
    rw [if_neg]
    · exact D.keep b o h
    · intro hb
      rcases List.mem_cons.mp hb with rfl | hb
      · rw [ofr.1] at h; cases h
      · rcases List.mem_cons.mp hb with rfl | hb
        · rw [oex.1] at h; cases h
        · cases hb
  have bk : ∀ b o, base.get? b = some o → K1 b = some o := fun b o h => by
    show (if b ∈ [f + 417, e + 417] then none else s.heap.get? b) = some o
    rw [if_neg]
    · exact hfl.1 b o h
    · intro hb
      rcases List.mem_cons.mp hb with rfl | hb
      · rw [hbf] at h; cases h
      · rcases List.mem_cons.mp hb with rfl | hb
        · rw [hbe] at h; cases h
        · cases hb
  have D1 : Hp K1 dr os s z ([(f, frY told sl F.P due regs cnt y), (e, ⟨.ref 100, d1, .fields vs, sl1⟩)] ++ []) := by
    refine ⟨D.gens, D.drawn, D.os, fun b o h => ?_, D.size, fun p hp => ⟨?_, (own p (by
      rcases List.mem_cons.mp hp with rfl | hp
      · exact List.mem_cons_self
      · rcases List.mem_cons.mp hp with rfl | hp
        · exact List.mem_cons_of_mem _ List.mem_cons_self
        · cases hp)).2⟩, ?_⟩
    · have h' : (if b ∈ [f + 417, e + 417] then none else s.heap.get? b) = some o := h
      split at h'
      · cases h'
      · exact h'
    · show (if p.1 + 417 ∈ [f + 417, e + 417] then none else s.heap.get? (p.1 + 417)) = none
      rw [if_pos]
      rcases List.mem_cons.mp hp with rfl | hp
      · exact List.mem_cons_self
      · rcases List.mem_cons.mp hp with rfl | hp
        · exact List.mem_cons_of_mem _ List.mem_cons_self
        · cases hp
    · simp only [List.append_nil, List.map_cons, List.map_nil, List.nodup_cons, List.mem_cons, List.not_mem_nil, or_false, not_false_eq_true, List.nodup_nil, and_true]
      exact nd0.1.1
  let y0 : Vals := { y with r := fun j => match j with | 0 => due | _ => regs, i := fun _ => cnt }
  refine SegK.step (E := kY0 told sl sl1 d1 vs) (κ := .base W P) (l := [(f, frY told sl F.P due regs cnt y), (e, ⟨.ref 100, d1, .fields vs, sl1⟩)]) [f, e] y0 rfl (hR0 told sl sl1 d1 vs) H (HK.sup k1) (rest := []) D1 rfl rfl (Nat.le_of_ble_eq_true rfl) (by kernel_rfl) (fun τ K' O => uses_nil rfl) (fun ⟨c, h⟩ => by cases h) hn (fun _ => True) (fun _ _ _ _ => trivial) (fun _ => rfl) (fun s1 τ E => ?_)
  have E : Hp K1 dr os s1 (z + 0) [(f, frY told sl F.P due regs cnt y), (e, ⟨.ref 100, d1, .fields vs, sl1⟩)] := E
  have ef := (E.own _ List.mem_cons_self).2
  have ee := (E.own _ (List.mem_cons_of_mem _ List.mem_cons_self)).2
  have keep1 : ∀ b o, b ∉ [f + 417, e + 417] → s.heap.get? b = some o → s1.heap.get? b = some o := fun b o hb h => E.keep b o (by
    show (if b ∈ [f + 417, e + 417] then none else s.heap.get? b) = some o
    rw [if_neg hb]; exact h)
  have hfl1 : Heap.FlyingW base l (e + 417) (.ref 100) a0 s1.heap := by
    obtain ⟨f1, f2, f3, f4⟩ := hfl
    refine ⟨fun b o h => E.keep b o (bk b o h), f2, f3.of_keeps (fun b o hb hnf => ?_), ?_⟩
    · by_cases q1 : b = f + 417
      · subst q1
        have := ofr.2.symm.trans hb
        injection this with this
        exact ⟨_, ef, by rw [← this]⟩
      · by_cases q2 : b = e + 417
        · subst q2
          have := oex.2.symm.trans hb
          injection this with this
          exact absurd (by rw [← this]) (hnf vs)
        · exact ⟨o, keep1 b o (by simp [q1, q2]) hb, rfl⟩
    · obtain ⟨oe, vs', T, oT, ts, he, hc, hd, h1, hnT, hTe, hT, hdT, h3⟩ := f4
      have e1 := oex.2.symm.trans he
      injection e1 with e1
      have hTf : T ≠ f + 417 := fun q => by
        subst q
        have e2 := ofr.2.symm.trans hT
        injection e2 with e2
        rw [← e2] at hdT
        cases told <;> cases hdT
      exact ⟨oe, vs', T, oT, ts, by rw [← e1]; exact ee, hc, hd, h1, hnT, hTe, keep1 T oT (by simp [hTf, hTe]) hT, hdT, h3⟩
  show GoodC F.M 21 (some (rf e)) (.base (fun _ => True) fun r s'' => ∃ v, r = .ok (.ret v) ∧ Good F.M 20 none (.base W P) (.pure (.done (.ret v))) s'') (.handlers (.ref (e + 417)) (suiteOf (lawHs F.T)) (lawEnv F.T (f + 417))) s1
  refine good_suite hH hfl1 (fun h' k2 k4 => ?_)
  have plain : ∀ p ∈ lY F.P Q due regs q qd qo nd no n1 n2 r2 r0 r1 fd fg, ∀ vs, p.2.data ≠ .fields vs := fun p hp vs => by
    unfold lY at hp
    simp only [List.mem_cons, List.not_mem_nil, or_false] at hp
    rcases hp with rfl | rfl | rfl | rfl | rfl <;> intro q <;> cases q
  have hfh : h'.get? (f + 417) = some (frY told sl F.P due regs cnt y) := k4 _ _ ef (fun vs q => by cases told <;> cases q)
  have D2 : Hp K dr os { s1 with heap := h' } (h'.objs.size - 417) ((f, frY told sl F.P due regs cnt y) :: lY F.P Q due regs q qd qo nd no n1 n2 r2 r0 r1 fd fg ++ []) := by
    rw [List.append_nil]
    refine ⟨E.gens, E.drawn, E.os, fun b o h => k2 b o (hKb b o h), ?_, fun p hp => ?_, ?_⟩
    · have : f + 417 < h'.objs.size := Heap.lt_size hfh
      show h'.objs.size = h'.objs.size - 417 + 417
      omega
    · rcases List.mem_cons.mp hp with rfl | hp
      · exact ⟨ofr.1, hfh⟩
      · have o := own p (List.mem_cons_of_mem _ (List.mem_cons_of_mem _ hp))
        have m : p.1 ∈ (lY F.P Q due regs q qd qo nd no n1 n2 r2 r0 r1 fd fg).map Prod.fst := List.mem_map.mpr ⟨p, hp, rfl⟩
        have p1 : p.1 ≠ f := fun q => nd0.1.2 (q ▸ m)
        have p2 : p.1 ≠ e := fun q => nd0.2.1 (q ▸ m)
        exact ⟨o.1, k4 _ _ (keep1 _ _ (by simp [p1, p2]) o.2) (plain p hp)⟩
    · simp only [List.map_cons, List.nodup_cons]
      exact ⟨nd0.1.2, nd0.2.2⟩
  let y1 : Vals := { y with r := fun j => match j with | 0 => r0 | 1 => r1 | _ => r2, n := fun j => match j with | 101 => n1 | _ => n2 }
  have run : (kY told sl cnt nd no fd fg Q).RunH F.kt := by
    rcases kind with ⟨rfl, rfl, h1, h2⟩ | ⟨rfl, rfl, h1, h2⟩
    · exact (hRY told sl fd fg Q).1 nd h1 h2
    · exact (hRY told sl fd fg Q).2 nd h1 h2
  refine Seg.step1 (hd := some (rf e)) (n := 21) (κ := .base (fun _ => True) fun r s'' => ∃ v, r = .ok (.ret v) ∧ Good F.M 20 none (.base W P) (.pure (.done (.ret v))) s'') (S := kY told sl cnt nd no fd fg Q) H HK [f, due, regs, q, qd, qo] y1 [] rfl rfl (Nat.le_of_ble_eq_true rfl)
    (fun j hj => List.mem_range.mpr hj) List.nodup_range (fun j hj => by have : j < 6 := List.mem_range.mp hj; omega) (fun τ K' O => uses_nil rfl) D2 (run _ _ _ _ _ _ _ _ _) (fun ⟨c, h⟩ => by cases h) (Nat.le_of_ble_eq_true rfl) (fun s3 G => ?_)
  exact ⟨_, rfl, fun Γ p o w => hend s3 _ _ G⟩
end
end Mine
end
section
set_option maxRecDepth 100000
set_option maxHeartbeats 4000000
namespace Mine
open PySem PySem.W PySem.W.X
/-- the functions are functions of the module -/
structure FnOk (T : KT) : Prop where
  law : (lawFd T).scope.kind ≠ .module
  di : (fnFd T 314).scope.kind ≠ .module
  ci : (fnFd T 307).scope.kind ≠ .module
  rf : (fnFd T 109).scope.kind ≠ .module
/-- the runs of the refusal -/
structure XRuns (kt : Params → KT) : Prop where
  xa : kXa.Run kt
  xb : kXb.Run kt
  xc : kXc.Run kt
  x1 : ∀ d told r m W g X M S Q X3, d ≠ .out → (kX1 d told r m W g X M S Q X3).Run kt
  x2 : ∀ tg r W g X M S Q x, r.Ok → (mk3 tg r.gives = true → r.way = 0) → (kX2 tg r W g X M S Q x).Run kt
  x3 : kX3.Run kt
  x4 : ∀ S, (kX4 S).Run kt
  y0 : ∀ told sl sl1 d1 vs, (kY0 told sl sl1 d1 vs).Run kt
  y : RY kt
  top : ExcTop kt
  fn : ∀ P, FnOk (kt P)
  hH : ∀ P, suiteOf (lawHs (kt P)) = [.ExceptHandler none none (suiteB (lawHs (kt P))) (posH (lawHs (kt P)))]
section
variable {F : Fix} {K : Addr → Option Obj} {dr : Drawn} {os : OsState} {rest : List (Nat × Obj)} {s : Shared} {z n : Nat} {W3 : Ctx → Prop} {P3 : Result → Shared → Prop}
noncomputable abbrev envDI (T : KT) (f : Nat) : Env := fnEnv T 314 qDI (f + 417)
noncomputable abbrev envCI (T : KT) (f : Nat) : Env := fnEnv T 307 qCI (f + 417)
noncomputable abbrev envRf (T : KT) (f : Nat) : Env := fnEnv T 109 qRf (f + 417)
/-- the loop's own level -/
noncomputable def WL (W3 : Ctx → Prop) (T : KT) (it : Value) (a : Addr) : Ctx → Prop := fun Γ => W3 Γ ∧ Γ.code = loopC3 T it a
noncomputable def PL (F : Fix) (W3 : Ctx → Prop) (P3 : Result → Shared → Prop) (it : Value) (a : Addr) : Result → Shared → Prop := fun r s'' => ∃ e, r = .error e ∧ Good F.M 30 none (.base (WL W3 F.T it a) P3) (loopX F.T a e) s''
theorem raise_a (hX : XRuns F.kt) (hA : AllRuns F.kt) (H : F.Ok) (HK : KOk F K) {d : Do} {told : Bool} {r : Row} {m : Nat} {W g A : Nat → Nat} {X M S Q X3 x : Vals} (hd : d ≠ .out) (hn : n ≤ 30) (hW3 : ∀ Γ, W3 Γ → envsOf Γ.below = [lawEnv F.T (A 3 + 417)]) (hit : ItFact (X3.a 0) m (A 2 + 417))
    (D : Hp K dr os s z ((rg A 0 30).zip (itO (A 1 + 417) (Int.ofNat m) :: j3 d.tg told r W g X M S Q X3 F.P A x) ++ rest))
    (hk : ∀ s' t, Hp K dr os s' (z + 4) ((z + 3, frO F.P kDIa (rg t 0 4) [rf (A 20), rf (A 4), rf (A 18), rf (A 16)] 4) :: ((rg A 0 30).zip (itO (A 1 + 417) (Int.ofNat m + 1) :: j3 d.tg told r W g X M S Q X3 F.P A (nF r (adr (rg A 0 30) z) x)) ++ rest)) →
      Good F.M 40 none (.base (fun Γ => envsOf Γ.below = [lawEnv F.T (A 3 + 417)] ∧ Γ.code = .func (fnBody F.T 314) (envDI F.T (z + 3))) (PL F W3 P3 (rf (A 0)) (A 3 + 417))) (funcR (fnBody F.T 314) (envDI F.T (z + 3))) s') :
    GoodC F.M n none (.base W3 P3) (loopC3 F.T (rf (A 0)) (A 3 + 417)) s := by
  refine good_den (by omega) ?_
  refine SegE.step (E := kX1 d told r m W g X M S Q X3) (κ := .base (WL W3 F.T (rf (A 0)) (A 3 + 417)) P3) (rg A 0 30) x rfl (hX.x1 d told r m W g X M S Q X3 hd) H HK D rfl rfl (Nat.le_of_ble_eq_true rfl) (by kernel_rfl) (fun τ K' O => uses_all (all_cons (it_use hA.hIt H O (Nat.le_of_ble_eq_true rfl) _ _ (by decide) _ hit) all_nil)) (fun ⟨c, h⟩ => by cases h) hn (fun Γ => envsOf Γ.below = [lawEnv F.T (A 3 + 417)]) (fun τ Γ p hΓ => ?_) (fun s1 τ E => ?_)
  · show envsOf ((Γ.code, p) :: Γ.below) = _
    rw [envsOf_cons, hΓ.2, hW3 Γ hΓ.1]
    rfl
  · let L1 : List (Nat × Obj) := (rg A 0 30).zip (itO (A 1 + 417) (Int.ofNat m + 1) :: j3 d.tg told r W g X M S Q X3 F.P A (nF r (adr (rg A 0 30) z) x)) ++ rest
    have E : Hp K dr os s1 (z + 3) ([] ++ L1) := Eq.mp (by kernel_rfl) E
    let xv : Vals := { v0 with r := fun j => ([A 20 + 417, A 4 + 417, A 18 + 417, A 16 + 417] : List Nat).getD j 0 }
    have hI : (TK.base (fun Γ => envsOf Γ.below = [lawEnv F.T (A 3 + 417)]) (PL F W3 P3 (rf (A 0)) (A 3 + 417))).Inv := fun Γ c h => h
    show GoodC F.M 31 none (.base (fun Γ => envsOf Γ.below = [lawEnv F.T (A 3 + 417)]) (PL F W3 P3 (rf (A 0)) (A 3 + 417))) (.call (.ref 314) ⟨[rf (A 20), rf (A 4), rf (A 18), rf (A 16)], []⟩) s1
    refine Seg.step_c (S := kXa) [] xv rfl hX.xa H HK (rest := L1) E rfl rfl rfl (Nat.le_of_ble_eq_true rfl) (by kernel_rfl) (fun τ K' O => uses_nil rfl) (fun _ => rfl) hI (Nat.le_of_ble_eq_true rfl) (fun s2 τ2 G => ?_)
    refine good_again hI rfl (good_func (by decide) ?_)
    exact hk s2 τ2 G
end
end Mine
end
section
set_option maxRecDepth 100000
set_option maxHeartbeats 4000000
namespace Mine
open PySem PySem.W PySem.W.X
section
variable {F : Fix} {K : Addr → Option Obj} {dr : Drawn} {os : OsState} {rest : List (Nat × Obj)} {s : Shared} {z n : Nat} {W2 : Ctx → Prop} {P2 : Result → Shared → Prop} {l : List Env}
noncomputable def dX2 (tg gives : Bool) : Nat := match mk3 tg gives with | true => 1 | false => 0
/-- what is behind a call of a function that has been walked to -/
noncomputable def PF (F : Fix) (W : Ctx → Prop) (P : Result → Shared → Prop) (n : Nat) (env : Env) : Result → Shared → Prop := fun r s'' => ∃ e, r = .error e ∧ Good F.M n none (.base W P) (outT env e) s''
theorem raise_b (hX : XRuns F.kt) (hA : AllRuns F.kt) (H : F.Ok) (HK : KOk F K) {tg : Bool} {r : Row} {W g B : Nat → Nat} {X M S Q x : Vals} {t : Nat → Tok} {fD : Nat} (hn : n ≤ 40) (hr : r.Ok) (hk3 : r.k ≤ 3) (hw : mk3 tg r.gives = true → r.way = 0)
    (hW2 : ∀ Γ, W2 Γ → envsOf Γ.below = l ∧ Γ.code = .func (fnBody F.T 314) (envDI F.T fD))
    (D : Hp K dr os s z ((rg B 0 26 ++ [fD]).zip (jD F.P tg r W g X M S Q B x ++ [frD F.P t B]) ++ rest))
    (hk : ∀ s' t' u, Hp K dr os s' (z + dX2 tg r.gives + 1) ((z + dX2 tg r.gives, frO F.P [nScope] (rg t' 0 1) [rf (B 16)] 1) :: ((rg B 0 26 ++ [fD]).zip (jD F.P tg r W g X M S Q B x ++ [frD2 F.P t u r B]) ++ rest)) →
      Good F.M 50 none (.base (fun Γ => envsOf Γ.below = envDI F.T fD :: l ∧ Γ.code = .func (fnBody F.T 307) (envCI F.T (z + dX2 tg r.gives))) (PF F W2 P2 40 (envDI F.T fD))) (funcR (fnBody F.T 307) (envCI F.T (z + dX2 tg r.gives))) s') :
    Good F.M n none (.base W2 P2) (funcR (fnBody F.T 314) (envDI F.T fD)) s := by
  let y : Vals := { v0 with t := t }
  refine SegE.step (E := kX2 tg r W g X M S Q x) (κ := .base W2 P2) (rg B 0 26 ++ [fD]) y rfl (hX.x2 tg r W g X M S Q x hr hw) H HK (l := (rg B 0 26 ++ [fD]).zip (jD F.P tg r W g X M S Q B x ++ [frD F.P t B])) D rfl rfl (Nat.le_of_ble_eq_true rfl) (by cases tg <;> kernel_rfl) (fun τ K' O => uses_all ?_) (fun ⟨c, h⟩ => by cases h) hn (fun Γ => envsOf Γ.below = envDI F.T fD :: l) (fun τ Γ p hΓ => ?_) (fun s1 τ E => ?_)
  · refine all_cons ?_ ?_
    · cases hg : r.gives with
      | true => exact cmp_use hA.hkIeq H O (Nat.le_of_ble_eq_true rfl) _ _ (vals [X.t 49, X.t 49] [] [71, 71] [] [] [] [] [] [] [] []) (Prod.ext (by kernel_rfl) rfl)
      | false => exact cmp_use hA.hkIeq H O (Nat.le_of_ble_eq_true rfl) _ _ (vals [X.t 24, X.t 49] [] [61, 71] [] [] [] [] [] [] [] []) (Prod.ext (by kernel_rfl) rfl)
    · intro u hu
      cases hm : mk3 tg r.gives with
      | true =>
        rw [hm] at hu
        have sp := sp_use hA.hSp H O (Nat.le_of_ble_eq_true rfl) 27 13 r.has hk3 (vals [r.w 75, τ 12] [] [] [] [] [] [] [] [] [] [])
        have ne := cmp_use hA.hkNe H O (Nat.le_of_ble_eq_true rfl) 28 18 (vals [τ 13, r.t 63] [nm r.k, nm r.k] [] [] [] [] [] [] [] [] []) (Prod.ext (str_ne_self r.k) rfl)
        exact all_cons sp (all_cons ne all_nil) u hu
      | false => rw [hm] at hu; cases hu
  · show envsOf ((Γ.code, p) :: Γ.below) = _
    obtain ⟨h1, h2⟩ := hW2 Γ hΓ
    rw [envsOf_cons, h2, h1]
    rfl
  · let L1 : List (Nat × Obj) := (rg B 0 26 ++ [fD]).zip (jD F.P tg r W g X M S Q B x ++ [frD2 F.P t τ r B]) ++ rest
    have E : Hp K dr os s1 (z + dX2 tg r.gives) ([] ++ L1) := Eq.mp (by kernel_rfl) E
    let xv : Vals := { v0 with r := fun _ => B 16 + 417 }
    have hI : (TK.base (fun Γ => envsOf Γ.below = envDI F.T fD :: l) (PF F W2 P2 40 (envDI F.T fD))).Inv := fun Γ c h => h
    show GoodC F.M 41 none (.base (fun Γ => envsOf Γ.below = envDI F.T fD :: l) (PF F W2 P2 40 (envDI F.T fD))) (.call (.ref 307) ⟨[rf (B 16)], []⟩) s1
    refine Seg.step_c (S := kXb) [] xv rfl hX.xb H HK (rest := L1) E rfl rfl rfl (Nat.le_of_ble_eq_true rfl) (by kernel_rfl) (fun τ K' O => uses_nil rfl) (fun _ => rfl) hI (Nat.le_of_ble_eq_true rfl) (fun s2 τ2 G => ?_)
    refine good_again hI rfl (good_func (by decide) ?_)
    exact hk s2 τ2 τ G
end
end Mine
end
section
set_option maxRecDepth 100000
set_option maxHeartbeats 4000000
namespace Mine
open PySem PySem.W PySem.W.X
section
variable {F : Fix} {K : Addr → Option Obj} {dr : Drawn} {os : OsState} {rest : List (Nat × Obj)} {s : Shared} {z n : Nat} {W2 : Ctx → Prop} {P2 : Result → Shared → Prop} {l : List Env}
noncomputable def cOut (P : Params) (C : Nat → Nat) (y : Vals) (ct : Tok) : List Obj := [inst 331 (C 1 + 417), nth (kCnt_ins P C y) 1, inst 141 (C 3 + 417), nth (kCnt_ins P C y) 3, inst 141 (C 5 + 417), nth (kCnt_ins P C y) 5, dO (setE (y.e 0) inhS (.int (y.i 0 + 1) ct)) (y.n 0)]
theorem raise_c (hX : XRuns F.kt) (hA : AllRuns F.kt) (H : F.Ok) (HK : KOk F K) {C : Nat → Nat} {y : Vals} {fC : Nat} (hn : n ≤ 50)
    (c0 : AllStr (y.e 0)) (c1 : lookS (y.e 0) inhS = some (.int (y.i 0) (y.t 43))) (c2 : (y.e 0).size ≤ 60) (hm : 20000 < y.i 0 + 1)
    (hW2 : ∀ Γ, W2 Γ → envsOf Γ.below = l ∧ Γ.code = .func (fnBody F.T 307) (envCI F.T fC))
    (D : Hp K dr os s z ((rg C 0 7 ++ [fC]).zip (kCnt_ins F.P C y ++ [frO F.P [nScope] [y.t 50] [rf (C 0)] 1]) ++ rest))
    (hk : ∀ s' t' u tk ct, Hp K dr os s' (z + 1) ((z, frO F.P [nScope, nText] (rg t' 0 2) [rf (C 0), .str tooMany tk] 2) :: ((rg C 0 7 ++ [fC]).zip (cOut F.P C y ct ++ [frC F.P (fun _ => y.t 50) u C]) ++ rest)) →
      Good F.M 60 none (.base (fun Γ => envsOf Γ.below = envCI F.T fC :: l ∧ Γ.code = .func (fnBody F.T 109) (envRf F.T z)) (PF F W2 P2 50 (envCI F.T fC))) (funcR (fnBody F.T 109) (envRf F.T z)) s') :
    Good F.M n none (.base W2 P2) (funcR (fnBody F.T 307) (envCI F.T fC)) s := by
  have i0 : (lookS (y.e 0) inhS).isSome = true := isSome_of c1
  refine SegE.step (E := kX3) (κ := .base W2 P2) (rg C 0 7 ++ [fC]) y rfl hX.x3 H HK (l := (rg C 0 7 ++ [fC]).zip (kCnt_ins F.P C y ++ [frO F.P [nScope] [y.t 50] [rf (C 0)] 1])) D rfl rfl (Nat.le_of_ble_eq_true rfl) (by kernel_rfl) (fun τ K' O => uses_all ?_) (fun ⟨c, h⟩ => by cases h) hn (fun Γ => envsOf Γ.below = envCI F.T fC :: l) (fun τ Γ p hΓ => ?_) (fun s1 τ E => ?_)
  · have s4 := allS_setE c0 inhS (.int (y.i 0 + 1) (τ 7))
    have s5 : lookS (setE (y.e 0) inhS (.int (y.i 0 + 1) (τ 7))) inhS = some (.int (y.i 0 + 1) (τ 7)) := look_setE_same c0 i0
    exact all_cons (dget3_some O _ _ _ _ _ _ c0 c1) <| all_cons (dold_use O _ _ _ _ _ _ c0 c2 i0) <| all_cons (ditem_use O _ _ _ _ _ s4 s5) <|
      all_cons (cmp_use hA.hkGt H O (Nat.le_of_ble_eq_true rfl) _ _ (vals [τ 7, 638] [] [y.i 0 + 1, 20000] [] [] [] [] [] [] [] []) (Prod.ext (decide_eq_true (show (20000 : Int) < y.i 0 + 1 from hm)) rfl)) all_nil
  · show envsOf ((Γ.code, p) :: Γ.below) = _
    obtain ⟨h1, h2⟩ := hW2 Γ hΓ
    rw [envsOf_cons, h2, h1]
    rfl
  · let L1 : List (Nat × Obj) := (rg C 0 7 ++ [fC]).zip (cOut F.P C y (τ 7) ++ [frC F.P (fun _ => y.t 50) τ C]) ++ rest
    have E : Hp K dr os s1 z ([] ++ L1) := Eq.mp (by kernel_rfl) E
    let xv : Vals := { v0 with r := fun _ => C 0 + 417, t := fun _ => τ 10 }
    have hI : (TK.base (fun Γ => envsOf Γ.below = envCI F.T fC :: l) (PF F W2 P2 50 (envCI F.T fC))).Inv := fun Γ c h => h
    show GoodC F.M 51 none (.base (fun Γ => envsOf Γ.below = envCI F.T fC :: l) (PF F W2 P2 50 (envCI F.T fC))) (.call (.ref 109) ⟨[rf (C 0), .str tooMany (τ 10)], []⟩) s1
    refine Seg.step_c (S := kXc) [] xv rfl hX.xc H HK (rest := L1) E rfl rfl rfl (Nat.le_of_ble_eq_true rfl) (by kernel_rfl) (fun τ K' O => uses_nil rfl) (fun _ => rfl) hI (Nat.le_of_ble_eq_true rfl) (fun s2 τ2 G => ?_)
    refine good_again hI rfl (good_func (by decide) ?_)
    exact hk s2 τ2 τ (τ 10) (τ 7) G
end
end Mine
end
section
set_option maxRecDepth 100000
set_option maxHeartbeats 4000000
namespace Mine
open PySem PySem.W PySem.W.X
section
variable {F : Fix} {K : Addr → Option Obj} {dr : Drawn} {os : OsState} {rest : List (Nat × Obj)} {s : Shared} {z n : Nat} {W2 : Ctx → Prop} {P2 : Result → Shared → Prop} {l : List Env}
noncomputable def excZ (z : Nat) : Obj := ⟨.ref 100, some (z + 5 + 417), .fields #[.ref (z + 4 + 417), .none, .none, .none, .bool false, .none], #[]⟩
theorem raise_d (hX : XRuns F.kt) (H : F.Ok) (HK : KOk F K) {c0 c1 fR : Nat} {S : Vals} {place : Nat} {t0 t1 tk : Tok} (hn : n ≤ 60)
    (D : Hp K dr os s z ([(c0, inst 331 (c1 + 417)), (c1, scD F.P S (.ref place)), (fR, frO F.P [nScope, nText] [t0, t1] [rf c0, .str tooMany tk] 2)] ++ rest))
    (hk : ∀ s', Hp K dr os s' (z + 6) ([(c0, inst 331 (c1 + 417)), (c1, scD F.P S (.ref place)), (fR, frO F.P [nScope, nText] [t0, t1] [rf c0, .str tooMany tk] 2), (z + 1, excZ z)] ++ rest) → Good F.M 60 none (.base W2 P2) (outT (envRf F.T fR) (rf (z + 1))) s') :
    Good F.M n none (.base W2 P2) (funcR (fnBody F.T 109) (envRf F.T fR)) s := by
  let y : Vals := { v0 with t := fun j => ([t0, t1, tk] : List Nat).getD j 0, r := fun _ => place }
  refine Seg.step_t (S := kX4 S) [c0, c1, fR] y rfl (hX.x4 S) H HK (l := [(c0, inst 331 (c1 + 417)), (c1, scD F.P S (.ref place)), (fR, frO F.P [nScope, nText] [t0, t1] [rf c0, .str tooMany tk] 2)]) D rfl rfl rfl (Nat.le_of_ble_eq_true rfl) (by kernel_rfl) (fun τ K' O => uses_all (all_cons (excNew_use hX.top O _ _ _ _) all_nil)) (fun _ => rfl) hn (fun s1 τ E => ?_)
  exact hk s1 (Eq.mp (by kernel_rfl) E)
end
end Mine
end
section
set_option maxRecDepth 100000
set_option maxHeartbeats 4000000
namespace Mine
open PySem PySem.W PySem.W.X
section
variable {F : Fix} {s : Shared} {W4 Wc Wd W3 : Ctx → Prop} {P3 : Result → Shared → Prop}
theorem flight {envR envC envD : Env} {LR LC LD e : Addr} {a0 : Value} {it : Value} {a : Addr} {base : Heap} {oe : Obj} {vs : Array Value}
    (h4 : ∀ Γ, W4 Γ → Γ.code.envs ++ envsOf Γ.below = [envR, envC, envD, lawEnv F.T a]) (hc : ∀ Γ, Wc Γ → Γ.code.envs ++ envsOf Γ.below = [envC, envD, lawEnv F.T a]) (hd : ∀ Γ, Wd Γ → Γ.code.envs ++ envsOf Γ.below = [envD, lawEnv F.T a])
    (hL : ∀ Γ, WL W3 F.T it a Γ → Γ.code.envs ++ envsOf Γ.below = [lawEnv F.T a]) (fR : envR.frame = some LR) (fC : envC.frame = some LC) (fD : envD.frame = some LD)
    (hf : s.heap.FunFrames base [envR, envC, envD, lawEnv F.T a]) (he : s.heap.get? e = some oe) (hcl : oe.cls = .ref 100) (hb : base.StaysIn s.heap) (hbe : base.get? e = none) (hdt : oe.data = .fields vs) (v1 : vs[1]? = some .none) (v0 : vs[0]? = some a0)
    (hk : ∀ h', Heap.HeldW base [lawEnv F.T a] e (.ref 100) a0 a h' → s.heap.UpToSlots h' → P3 (.error (.ref e)) { s with heap := h' }) :
    Good F.M 60 none (.base W4 (PF F Wc (PF F Wd (PL F W3 P3 it a) 40 envD) 50 envC)) (outT envR (.ref e)) s := by
  refine leave_first h4 hf fR he hb hbe hdt v1 v0 fun h1 k1 u1 => ⟨_, rfl, ?_⟩
  rw [hcl] at k1
  refine leave_next (s := { s with heap := h1 }) hc fC k1 fun h2 k2 u2 => ⟨_, rfl, ?_⟩
  refine leave_next (s := { s with heap := h2 }) hd fD k2 fun h3 k3 u3 => ⟨_, rfl, ?_⟩
  refine loop_pass (s := { s with heap := h3 }) hL k3 fun h4 k4 u4 => ?_
  exact hk h4 k4 (((u1.trans u2).trans u3).trans u4)
end
end Mine
end
section
set_option maxRecDepth 100000
set_option maxHeartbeats 4000000
namespace Mine
open PySem PySem.W PySem.W.X
section
variable {F : Fix} {K : Addr → Option Obj} {dr : Drawn} {os : OsState} {s : Shared} {z n : Nat} {W W3 : Ctx → Prop} {P P3 : Result → Shared → Prop}
theorem refsY_of {α : Type} (f : α → Nat) (l : List α) : (l.map fun u => rf (f u)).toArray = refsY (fun j => (l.map f).getD j 0) l.length := by
  unfold refsY
  congr 1
  apply List.ext_getElem
  · simp
  · intro j h1 h2
    simp only [List.length_map] at h1
    simp [h1]
/-- the frames of the refusal, the exception, and what is read again, in the heap where refuse is left -/
theorem raise_legs (hX : XRuns F.kt) (hA : AllRuns F.kt) (H : F.Ok) (HK : KOk F K) {tg told : Bool} {d : Do} {X M S Q Z x : Vals} {A : Nat → Nat} {D3 : Ad3} {r : Row} {zr m : Nat} {pre post : Rows} {R' : List (Nat × Obj)}
    (hn : n ≤ 30) (hdt : d.tg = tg) (hd : d ≠ .out) (hr : r.Ok) (hk3 : r.k ≤ 3) (hw : mk3 tg r.gives = true → r.way = 0) (hit : ItFact (Z.a 0) m (A3 A D3 zr 2 + 417))
    (hW3 : ∀ Γ, W3 Γ → envsOf Γ.below = [lawEnv F.T (A 1 + 417)]) (c0 : AllStr (x.e 0)) (c1 : lookS (x.e 0) inhS = some (.int (x.i 1) (x.t 1))) (c2 : (x.e 0).size ≤ 60) (hm : 20000 < x.i 1 + 1)
    (D : Hp K dr os s z (fx3 F.P tg told X M S Q Z A D3 m x ++ (rowsL F.P X A (pre ++ (r, zr) :: post) ++ R')))
    (hk : ∀ (s' : Shared) (z' fD fC fR e ez : Nat) (x' : Vals) (rest : List (Nat × Obj)) (oD oC oR : Obj) (W4 Wc Wd : Ctx → Prop),
      (∀ Γ, W4 Γ → Γ.code.envs ++ envsOf Γ.below = [envRf F.T fR, envCI F.T fC, envDI F.T fD, lawEnv F.T (A 1 + 417)]) → (∀ Γ, Wc Γ → Γ.code.envs ++ envsOf Γ.below = [envCI F.T fC, envDI F.T fD, lawEnv F.T (A 1 + 417)]) → (∀ Γ, Wd Γ → Γ.code.envs ++ envsOf Γ.below = [envDI F.T fD, lawEnv F.T (A 1 + 417)]) →
      ((∀ vs, oD.data ≠ .fields vs) ∧ (∀ vs, oC.data ≠ .fields vs) ∧ ∀ vs, oR.data ≠ .fields vs) →
      Hp K dr os s' z' ((A 1, fr3 F.P told Z (A3 A D3 zr) x') :: (D3.q, inst 141 (D3.qd + 417)) :: (D3.qd, qD F.P Q (A 12) D3.qn D3.qo) :: (D3.qo, lO (x.a 1) (x.n 101)) :: (e, excZ ez) :: (fC, oC) :: (fD, oD) :: (fR, oR) :: (rest ++ (rowsL F.P X A (pre ++ post) ++ R'))) →
      Good F.M 60 none (.base W4 (PF F Wc (PF F Wd (PL F W3 P3 (rf D3.it) (A 1 + 417)) 40 (envDI F.T fD)) 50 (envCI F.T fC))) (outT (envRf F.T fR) (rf e)) s') :
    GoodC F.M n none (.base W3 P3) (loopC3 F.T (rf D3.it) (A 1 + 417)) s := by
  subst hdt
  let A' := A3 A D3 zr
  have D1 := Hp.pick2 37 _ D.rowOut [0, 1, 36, 2, 34, 33, 20, 19, 27, 26, 25, 24, 29, 28, 3, 4, 5, 6, 7, 8, 9, 10, 11, 12, 13, 14, 15, 16, 17, 18] [21, 22, 23, 30, 31, 32, 35] (by kernel_rfl) (by decide +kernel)
  let P0 : List (Nat × Obj) := pk (fx3 F.P d.tg told X M S Q Z A D3 m x ++ rowL F.P X A (r, zr)) [21, 22, 23, 30, 31, 32, 35]
  let R0 : List (Nat × Obj) := P0 ++ (rowsL F.P X A (pre ++ post) ++ R')
  have D2 : Hp K dr os s z ((rg A' 0 30).zip (itO (A' 1 + 417) (Int.ofNat m) :: j3 d.tg told r (fun j => zr + j) (g3 A) X M S Q Z F.P A' x) ++ R0) := Eq.mp (by kernel_rfl) D1
  refine raise_a hX hA H HK (A := A') hd hn hW3 hit D2 fun s1 t1 E1 => ?_
  let x' : Vals := nF r (adr (rg A' 0 30) z) x
  let B : Nat → Nat := fun j => A' (4 + j)
  have E2 := Hp.pick2 31 ((z + 3, frO F.P kDIa (rg t1 0 4) [rf (A' 20), rf (A' 4), rf (A' 18), rf (A' 16)] 4) :: ((rg A' 0 30).zip (itO (A' 1 + 417) (Int.ofNat m + 1) :: j3 d.tg told r (fun j => zr + j) (g3 A) X M S Q Z F.P A' x'))) E1 [5, 6, 7, 8, 9, 10, 11, 12, 13, 14, 15, 16, 17, 18, 19, 20, 21, 22, 23, 24, 25, 26, 27, 28, 29, 30, 0] [1, 2, 3, 4] (by kernel_rfl) (by decide +kernel)
  let P1 : List (Nat × Obj) := [(A' 0, itO (A' 1 + 417) (Int.ofNat m + 1)), (A' 1, lO (Z.a 0) (Z.n 100)), (A' 2, rowT r (wI (fun j => A' (4 + j)) (fun j => zr + j))), (A' 3, fr3 F.P told Z A' x')]
  have E3 : Hp K dr os s1 (z + 4) ((rg B 0 26 ++ [z + 3]).zip (jD F.P d.tg r (fun j => zr + j) (g3 A) X M S Q B x' ++ [frD F.P t1 B]) ++ (P1 ++ R0)) := Eq.mp (by kernel_rfl) E2
  refine raise_b hX hA H HK (B := B) (x := x') (l := [lawEnv F.T (A 1 + 417)]) (Nat.le_refl 40) hr hk3 hw (fun Γ h => h) E3 fun s2 t2 u2 G1 => ?_
  let C : Nat → Nat := fun j => B (16 + j)
  let y : Vals := { vC S Q X x' B with t := fun j => match j with | 50 => t2 0 | j => (vC S Q X x' B).t j }
  let fC : Nat := z + 4 + dX2 d.tg r.gives
  have G2 := Hp.pick2 28 ((fC, frO F.P [nScope] (rg t2 0 1) [rf (B 16)] 1) :: ((rg B 0 26 ++ [z + 3]).zip (jD F.P d.tg r (fun j => zr + j) (g3 A) X M S Q B x' ++ [frD2 F.P t1 u2 r B]))) G1 [17, 18, 19, 20, 21, 22, 23, 0] [1, 2, 3, 4, 5, 6, 7, 8, 9, 10, 11, 12, 13, 14, 15, 16, 24, 25, 26, 27] (by kernel_rfl) (by decide +kernel)
  let P2 : List (Nat × Obj) := pk ((fC, frO F.P [nScope] (rg t2 0 1) [rf (B 16)] 1) :: ((rg B 0 26 ++ [z + 3]).zip (jD F.P d.tg r (fun j => zr + j) (g3 A) X M S Q B x' ++ [frD2 F.P t1 u2 r B]))) [1, 2, 3, 4, 5, 6, 7, 8, 9, 10, 11, 12, 13, 14, 15, 16, 24, 25, 26, 27]
  have G3 : Hp K dr os s2 (fC + 1) ((rg C 0 7 ++ [fC]).zip (kCnt_ins F.P C y ++ [frO F.P [nScope] [y.t 50] [rf (C 0)] 1]) ++ (P2 ++ (P1 ++ R0))) := Eq.mp (by kernel_rfl) G2
  refine raise_c hX hA H HK (C := C) (y := y) (l := [envDI F.T (z + 3), lawEnv F.T (A 1 + 417)]) (Nat.le_refl 50) c0 c1 c2 hm (fun Γ h => h) G3 fun s3 t3 u3 tk ct I1 => ?_
  have I2 := Hp.pick2 9 ((fC + 1, frO F.P [nScope, nText] (rg t3 0 2) [rf (C 0), .str tooMany tk] 2) :: ((rg C 0 7 ++ [fC]).zip (cOut F.P C y ct ++ [frC F.P (fun _ => y.t 50) u3 C]))) I1 [1, 2, 0] [3, 4, 5, 6, 7, 8] (by kernel_rfl) (by decide +kernel)
  let P3' : List (Nat × Obj) := pk ((fC + 1, frO F.P [nScope, nText] (rg t3 0 2) [rf (C 0), .str tooMany tk] 2) :: ((rg C 0 7 ++ [fC]).zip (cOut F.P C y ct ++ [frC F.P (fun _ => y.t 50) u3 C]))) [3, 4, 5, 6, 7, 8]
  have I3 : Hp K dr os s3 (fC + 1 + 1) ([(C 0, inst 331 (C 1 + 417)), (C 1, scD F.P S (.ref (C 2 + 417))), (fC + 1, frO F.P [nScope, nText] [t3 0, t3 1] [rf (C 0), .str tooMany tk] 2)] ++ (P3' ++ (P2 ++ (P1 ++ R0)))) := Eq.mp (by kernel_rfl) I2
  refine raise_d hX H HK (fR := fC + 1) (c0 := C 0) (c1 := C 1) (S := S) (place := C 2 + 417) (t0 := t3 0) (t1 := t3 1) (tk := tk) (Nat.le_refl 60) I3 fun s4 J1 => ?_
  let c4 : List (Nat × Obj) := [(C 0, inst 331 (C 1 + 417)), (C 1, scD F.P S (.ref (C 2 + 417))), (fC + 1, frO F.P [nScope, nText] [t3 0, t3 1] [rf (C 0), .str tooMany tk] 2), (fC + 1 + 1 + 1, excZ (fC + 1 + 1))] ++ (P3' ++ (P2 ++ (P1 ++ P0)))
  have J2 : Hp K dr os s4 (fC + 1 + 1 + 6) (c4 ++ (rowsL F.P X A (pre ++ post) ++ R')) := by
    have e : c4 ++ (rowsL F.P X A (pre ++ post) ++ R') = [(C 0, inst 331 (C 1 + 417)), (C 1, scD F.P S (.ref (C 2 + 417))), (fC + 1, frO F.P [nScope, nText] [t3 0, t3 1] [rf (C 0), .str tooMany tk] 2), (fC + 1 + 1 + 1, excZ (fC + 1 + 1))] ++ (P3' ++ (P2 ++ (P1 ++ R0))) := by
      simp only [c4, R0, List.append_assoc]
    rw [e]; exact J1
  have J3 := Hp.pick2 41 c4 J2 [33, 4, 5, 27, 3, 9, 29, 2] [0, 1, 6, 7, 8, 10, 11, 12, 13, 14, 15, 16, 17, 18, 19, 20, 21, 22, 23, 24, 25, 26, 28, 30, 31, 32, 34, 35, 36, 37, 38, 39, 40] (by kernel_rfl) (by decide +kernel)
  refine hk s4 (fC + 1 + 1 + 6) (z + 3) fC (fC + 1) (fC + 1 + 1 + 1) (fC + 1 + 1) x' (pk c4 [0, 1, 6, 7, 8, 10, 11, 12, 13, 14, 15, 16, 17, 18, 19, 20, 21, 22, 23, 24, 25, 26, 28, 30, 31, 32, 34, 35, 36, 37, 38, 39, 40]) (frD2 F.P t1 u2 r B) (frC F.P (fun _ => y.t 50) u3 C) (frO F.P [nScope, nText] [t3 0, t3 1] [rf (C 0), .str tooMany tk] 2) _ _ _ (fun Γ h => ?_) (fun Γ h => ?_) (fun Γ h => ?_) ⟨fun vs q => (by cases q), fun vs q => (by cases q), fun vs q => (by cases q)⟩ (Eq.mp (by kernel_rfl) J3)
  · rw [h.1, h.2]; rfl
  · rw [h.1, h.2]; rfl
  · rw [h.1, h.2]; rfl
end
end Mine
end
section
set_option maxRecDepth 100000
set_option maxHeartbeats 400000
namespace Mine
open PySem PySem.W PySem.W.X
section
variable {F : Fix} {K : Addr → Option Obj} {dr : Drawn} {os : OsState} {s : Shared} {z n : Nat} {W W3 : Ctx → Prop} {P P3 : Result → Shared → Prop}
theorem nd5 {a b c d f : Nat} {l r : List Nat} (h : (a :: (l ++ (b :: c :: d :: f :: r))).Nodup) : ∀ x ∈ l, x ≠ a ∧ x ≠ b ∧ x ≠ c ∧ x ≠ d ∧ x ≠ f := fun x hx => by
  obtain ⟨h1, h2⟩ := List.nodup_cons.mp h
  obtain ⟨_, _, h3⟩ := List.nodup_append.mp h2
  exact ⟨fun q => h1 (q ▸ List.mem_append_left _ hx), h3 x hx b (by simp), h3 x hx c (by simp), h3 x hx d (by simp), h3 x hx f (by simp)⟩
theorem raise_good (hX : XRuns F.kt) (hA : AllRuns F.kt) (H : F.Ok) (HK : KOk F K) {tg told : Bool} {X M S Q Z x x2 : Vals} {A : Nat → Nat} {D3 : Ad3} {due tab : Nat} {cnt : Int} {ct : Tok} {l done todo : Rows} {r : Row} {zr : Nat} {hs : List Her} {ds : List Due} {e0 : Array DictEntry} {L8 R' : List (Nat × Obj)}
    (hn : n ≤ 30) (hW3 : ∀ Γ, W3 Γ → envsOf Γ.below = [lawEnv F.T (A 1 + 417)]) (hWk : ∀ Γ, W Γ → Γ.code.envs ++ envsOf Γ.below = [lawEnv F.T (A 1 + 417)])
    (hz : ZOk A due tab cnt ct Z) (hq : X.r 0 = D3.q + 417) (hl : l = done ++ (r, zr) :: todo) (hdue : isDue tg r = true) (hl4 : l.length ≤ 4) (hr : r.Ok) (hk3 : r.k ≤ 3) (hit : ItFact (Z.a 0) done.length (A3 A D3 zr 2 + 417))
    (hcnt : cnt = 20000 ∨ cnt = 19999 ∨ cnt = 0) (i2 : I2 tg e0 l ds x2) (i3 : I3 tg e0 cnt done ((r, zr) :: todo) hs x) (hm : 20000 ≤ x.i 1)
    (D : Hp K dr os s z (fx3 F.P tg told X M S Q Z A D3 done.length x ++ (rowsL F.P X A l.reverse ++ (L8 ++ (lE F.P X A x2 due tab ++ R')))))
    (hP3 : ∀ e s', Good F.M 20 none (.base W P) (errT F.T e (A 1 + 417)) s' → P3 (.error e) s')
    (hend : ∀ s' z' L', Hp K dr os s' z' L' → P (.ok (.ret (.bool true))) s') : GoodC F.M n none (.base W3 P3) (loopC3 F.T (rf D3.it) (A 1 + 417)) s := by
  have hd : doOf tg r ≠ .out := fun e => by unfold isDue at hdue; rw [e] at hdue; cases hdue
  have hw : mk3 tg r.gives = true → r.way = 0 := fun h => by
    have htg : tg = true := by cases tg <;> first | rfl | cases h
    subst htg
    have hg : r.gives = true := h
    have hdo : doOf true r = .tag := by
      cases q : doOf true r with
      | tag => rfl
      | out => exact absurd q hd
      | plain => have w := doOf_tg true r; rw [q] at w; cases w
    exact (doOf_tag hdo hg).2
  have hrev : l.reverse = todo.reverse ++ (r, zr) :: done.reverse := by rw [hl]; simp
  rw [hrev] at D
  refine raise_legs hX hA H HK (d := doOf tg r) hn (doOf_tg tg r) hd hr hk3 hw hit hW3 i3.c0 i3.c1 i3.c2 (by omega) D fun s1 z1 fD fC fR e ez x' rest oD oC oR W4 Wc Wd h4 hc hdd ⟨pD, pC, pR⟩ E => ?_
  let St : List Nat := [A 1 + 417, fD + 417, fC + 417, fR + 417, e + 417]
  have own := E.all
  have oL := own (A 1, _) List.mem_cons_self
  have oe := own (e, excZ ez) (by simp)
  have oC' := own (fC, oC) (by simp)
  have oD' := own (fD, oD) (by simp)
  have oR' := own (fR, oR) (by simp)
  have fn := hX.fn F.P
  have hfun : s1.heap.FunFrames (woH s1.heap St) [envRf F.T fR, envCI F.T fC, envDI F.T fD, lawEnv F.T (A 1 + 417)] :=
    ⟨fn.rf, ⟨_, _, rfl, woH_none (by simp [St]), oR', pR⟩, fn.ci, ⟨_, _, rfl, woH_none (by simp [St]), oC', pC⟩, fn.di, ⟨_, _, rfl, woH_none (by simp [St]), oD', pD⟩, fn.law, ⟨_, _, rfl, woH_none (by simp [St]), oL, fun vs q => by cases told <;> cases q⟩, trivial⟩
  refine flight (base := woH s1.heap St) (e := e + 417) (oe := excZ ez) h4 hc hdd (fun Γ h => ?_) rfl rfl rfl hfun oe rfl (woH_stays _ _) (woH_none (by simp [St])) rfl rfl rfl fun h1 k1 u1 => ?_
  · rw [h.2, hW3 Γ h.1]; rfl
  refine hP3 _ _ (err_hand (s := { s1 with heap := h1 }) hWk ?_ k1 fun h2 k2 u2 => ?_)
  · have := hX.hH F.P
    show (lawHs F.T).isEmpty = false
    cases q : lawHs F.T with
    | nil => rw [q] at this; cases this
    | cons a b => rfl
  have hq' : Value.ref (X.r 0) = rf D3.q := by rw [hq]; rfl
  have hsl : hs.length = (done.filter (fun q => isDue tg q.1)).length := by
    have := congrArg List.length i3.rows
    simpa using this
  have dsl : ds.length = (done.filter (fun q => isDue tg q.1)).length + 1 + (todo.filter (fun q => isDue tg q.1)).length := by
    have := congrArg List.length i2.rows
    rw [hl, List.filter_append, List.filter_cons] at this
    simp only [hdue, if_true, List.length_map, List.length_reverse, List.length_append, List.length_cons] at this
    omega
  have dl4 : ds.length ≤ 4 := Nat.le_trans i2.len hl4
  have kind : (cnt = 20000 ∧ hs.length = 0 ∧ 1 ≤ ds.length ∧ ds.length ≤ 4) ∨ (cnt = 19999 ∧ hs.length = 1 ∧ 2 ≤ ds.length ∧ ds.length ≤ 4) := by
    have h1 := i3.c4
    have h2 := i3.c5
    rcases hcnt with e | e | e
    · left; omega
    · right; omega
    · exfalso; omega
  let H8 : List (Nat × Obj) := [(A 1, fr3 F.P told Z (A3 A D3 zr) x'), (D3.q, inst 141 (D3.qd + 417)), (D3.qd, qD F.P Q (A 12) D3.qn D3.qo), (D3.qo, lO (x.a 1) (x.n 101)), (e, excZ ez), (fC, oC), (fD, oD), (fR, oR)]
  have E1 : Hp K dr os s1 z1 (H8 ++ (rest ++ (rowsL F.P X A (todo.reverse ++ done.reverse) ++ (L8 ++ (lE F.P X A x2 due tab ++ R'))))) := E
  have E2 := E1.perm (((((perm_front L8 _ _).append_left (rowsL F.P X A (todo.reverse ++ done.reverse))).trans (perm_front _ _ _)).append_left rest).trans (perm_front _ _ _) |>.append_left H8)
  have E3 := Hp.pick2 13 _ E2.assoc [0, 9, 8, 1, 2, 3, 4, 5, 6, 7] [10, 11, 12] (by kernel_rfl) (by decide +kernel)
  let L5 : List (Nat × Obj) := lY F.P Q due (A 4) D3.q D3.qd D3.qo ds.length hs.length (x2.n 101) (x.n 101) (A 9 + 417) (A 12) D3.qn (fun j => ((ds.reverse).map Due.a).getD j 0) (fun j => ((hs.reverse).map Her.a).getD j 0)
  let R9 : List (Nat × Obj) := pk (H8 ++ lE F.P X A x2 due tab) [10, 11, 12] ++ (rest ++ (rowsL F.P X A (todo.reverse ++ done.reverse) ++ (L8 ++ R')))
  have ea : x2.a 1 = refsY (fun j => ((ds.reverse).map Due.a).getD j 0) ds.length := by
    rw [i2.due]
    have := refsY_of Due.a ds.reverse
    rw [List.length_reverse] at this
    exact this
  have eb : x.a 1 = refsY (fun j => ((hs.reverse).map Her.a).getD j 0) hs.length := by
    rw [i3.order]
    have := refsY_of Her.a hs.reverse
    rw [List.length_reverse] at this
    exact this
  have E4 : Hp K dr os s1 z1 ((A 1, fr3 F.P told Z (A3 A D3 zr) x') :: (L5 ++ ((e, excZ ez) :: (fC, oC) :: (fD, oD) :: (fR, oR) :: R9))) := by
    have E4 : Hp K dr os s1 z1 ((A 1, fr3 F.P told Z (A3 A D3 zr) x') :: (due, lO (x2.a 1) (x2.n 101)) :: (A 4, lO #[rf (A 9), .ref (X.r 0)] 2) :: (D3.q, inst 141 (D3.qd + 417)) :: (D3.qd, qD F.P Q (A 12) D3.qn D3.qo) :: (D3.qo, lO (x.a 1) (x.n 101)) :: (e, excZ ez) :: (fC, oC) :: (fD, oD) :: (fR, oR) :: R9) := E3
    rw [ea, eb, hq'] at E4
    exact E4
  have nd := E4.nd
  have own4 := E4.own
  obtain ⟨oe2, vs, he2, hcl2, hd2⟩ : ∃ oe2 vs, h2.get? (e + 417) = some oe2 ∧ oe2.cls = .ref 100 ∧ oe2.data = .fields vs := by
    obtain ⟨_, _, _, oe2, vs, T, oT, ts, he, hc, hd, _⟩ := k2
    exact ⟨oe2, vs, he, hc.1, hd⟩
  have hS : ∀ a ∈ St, K a = none := fun a ha => by
    simp only [St, List.mem_cons, List.not_mem_nil, or_false] at ha
    rcases ha with rfl | rfl | rfl | rfl | rfl
    · exact (E.own (A 1, fr3 F.P told Z (A3 A D3 zr) x') (by simp)).1
    · exact (E.own (fD, oD) (by simp)).1
    · exact (E.own (fC, oC) (by simp)).1
    · exact (E.own (fR, oR) (by simp)).1
    · exact (E.own (e, excZ ez) (by simp)).1
  have nd2 : (A 1 :: (L5.map Prod.fst ++ (e :: fC :: fD :: fR :: R9.map Prod.fst))).Nodup := by
    have := nd
    rw [List.map_cons, List.map_append] at this
    exact this
  have hL' : ∀ p ∈ L5, p.1 + 417 ∉ St := fun p hp h => by
    obtain ⟨q1, q2, q3, q4, q5⟩ := nd5 nd2 p.1 (List.mem_map.mpr ⟨p, hp, rfl⟩)
    rcases List.mem_cons.mp h with h | h
    · exact q1 (Nat.add_right_cancel h)
    rcases List.mem_cons.mp h with h | h
    · exact q4 (Nat.add_right_cancel h)
    rcases List.mem_cons.mp h with h | h
    · exact q3 (Nat.add_right_cancel h)
    rcases List.mem_cons.mp h with h | h
    · exact q5 (Nat.add_right_cancel h)
    rcases List.mem_cons.mp h with h | h
    · exact q2 (Nat.add_right_cancel h)
    · cases h
  have hae : A 1 ≠ e := fun q => (List.nodup_cons.mp nd2).1 (List.mem_append_right _ (q ▸ List.mem_cons_self))
  obtain ⟨sl, G⟩ := Hp.flown (L' := L5) (S := St) (h' := h2) E4 (List.sublist_append_left _ _) hS hL' (by simp [St]) hae (fun vs q => by cases told <;> cases q) k2.1 (u1.trans u2) he2
  let y : Vals := { v0 with t := ftD told Z ct, v := fvD A due tab D3 cnt ct Z x' }
  have ef : ({ fr3 F.P told Z (A3 A D3 zr) x' with slots := sl } : Obj) = frY told sl F.P due (A 4) cnt y := by
    have e1 : fr3 F.P told Z (A3 A D3 zr) x' = frN F.P (ksD told) (ftD told Z ct) (fvD A due tab D3 cnt ct Z x') := fr3_eq hz F.P told
    rw [e1]
    cases told <;> kernel_rfl
  have eo : oe2 = ⟨.ref 100, oe2.dict, .fields vs, oe2.slots⟩ := by
    obtain ⟨a1, a2, a3, a4⟩ := oe2
    simp only at hcl2 hd2
    rw [hcl2, hd2]
  rw [ef, eo] at G
  have hKb : ∀ b o, K b = some o → (woH s1.heap St).get? b = some o := fun b o h => by
    rw [woH_get]
    have : St.contains b = false := by
      cases c : St.contains b with
      | false => rfl
      | true => rw [hS b (List.contains_iff_mem.mp c)] at h; cases h
    rw [this]
    exact E4.keep b o h
  exact hand_good (base := woH s1.heap St) hX.y0 hX.y H HK (Nat.le_refl 20) (hX.hH F.P) kind hKb (woH_none (by simp [St])) (woH_none (by simp [St])) k2 G hend
end
end Mine
end
section
set_option maxRecDepth 100000
set_option maxHeartbeats 400000
namespace Mine
open PySem PySem.W PySem.W.X PyProof.Rows
theorem perm5 {α : Type} (a b c d e : List α) : (a ++ (b ++ (c ++ (d ++ e)))).Perm (c ++ (d ++ (a ++ (b ++ e)))) :=
  ((perm_front b c _).append_left a).trans ((perm_front a c _).trans ((((perm_front b d e).append_left a).trans (perm_front a d _)).append_left c))
section
variable {F : Fix} {K : Addr → Option Obj} {dr : Drawn} {os : OsState} {s : Shared} {z n : Nat} {W : Ctx → Prop} {P : Result → Shared → Prop}
theorem law_join {vals : List Value} {ns : List Int} (hR : Runs F.kt) (hX : XRuns F.kt) (H : F.Ok) (HK : KOk F K) (hI : (TK.base W P).Inv) (hW0 : ∀ Γ, W Γ → envsOf Γ.below = []) (h416 : (F.kt F.w.params).get 416 = some (lO vals.toArray 0)) (hv : IntsAre vals ns) (hl : ns.length ≤ 63)
    (D : Hp K dr os s 0 []) (hend : ∀ s' z' L', Hp K dr os s' z' L' → P (.ok (.ret (.bool true))) s') :
    GoodC F.M 1 none (.base W P) (.call (.ref 415) ⟨[.ref 416], []⟩) s := by
  have hA := hR.hA
  refine phA0 hI h416 hv hl hR.a00 hR.a01 H HK (by decide) D fun s1 y hc D1 => ?_
  let κ : TK := .base (fun Γ => W Γ ∧ Γ.code = .func (lawBody F.T) (lawEnv F.T (0 + 417))) P
  show Good F.M 20 none κ (lawT F.T 1 (0 + 417)) s1
  obtain ⟨tg, f1⟩ := drawB hc (s := 0) (r := 1) (by decide)
  obtain ⟨v, f2, hv4⟩ := drawN hc (s := 1) (m := 4) (r := 0) (by decide)
  have hv3 : v ≤ 3 := by omega
  refine phA (f := 0) (sd := 1) (c := 5) hA (hR.a tg) (hR.b v hv3) H HK (Nat.le_refl 20) f1 f2 D1 fun s2 t st D2 => ?_
  let X : Vals := XA tg (aA 9) (aB 9) t y
  let A : Nat → Nat := AL tg 9 0 1 5
  let x0 : Vals := xA F.P tg t 2 st y
  have D2 : Hp K dr os s2 (9 + dA tg + 3) ((rg A 0 18).zip (rngO (Int.ofNat ([] : Rows).length) (Int.ofNat (v + 1)) :: j1 tg (lat []) X F.P A x0) ++ (rowsL F.P X A [] ++ (((restX tg).map (adr [0, 1, 5] 9)).zip (restA F.P tg (aA 9) t) ++ []))) := D2
  let κ9 : TK := .base (fun _ => True) fun r s' => r = .ok .next ∧ Good F.M 20 none κ (lawT F.T (9 + 1) (0 + 417)) s'
  refine loop_good (loop1 (κ := κ9) (A := A) (tg := tg) (X := X) hA hR.r1 hR.e1 H HK (fun _ _ _ => trivial) hc (v + 1) 21 [] x0 s2 _ (by decide) (by simp; omega) I1_start D2 fun s3 z3 qs x1 hql i1 D3 => ⟨rfl, ?_⟩)
  have hql : qs.length = v + 1 := by rw [hql]; simp
  have hlat : lat qs = true := by cases qs with | nil => simp at hql | cons a b => rfl
  have hq4 : qs.length ≤ 4 := by omega
  rw [hlat] at D3
  have D3 := D3.perm ((perm_front (rowsL F.P X A qs) _ _).append_left _)
  refine phB (z0 := 9) (f := 0) (sd := 1) (c := 5) (y := y) (t := t) (x := x1) (tg := tg) hA (hR.m tg) hR.t2 H HK (Nat.le_refl 20) i1.p0 i1.pd (by have := i1.pz; omega) D3 fun s4 J1 τ τ' D4 => ?_
  let M : Vals := MB tg (ZA tg (aB 9) t) τ (A 7) (dsc tg 9) (mdc tg 9 z3)
  let it := z3 + dM tg + 6
  let due := z3 + dM tg
  let tab := z3 + dM tg + 1
  let l : Rows := qs.reverse
  have hl : l.length = qs.length := List.length_reverse
  have hlr : l.reverse = qs := List.reverse_reverse _
  let ft := ft2 tg x1 τ τ'
  let fv := fv2 tg X A x1 z3
  let x20 : Vals := x2s ft fv x1
  let Y2 : Vals := X2 fv x1
  let R4 : List (Nat × Obj) := lX F.P tg X M A x1 (mdi tg z3) (mdd tg z3) (mdo tg z3) ++ (lQ F.P 9 t ++ (J1 ++ []))
  have ok4 := rowsOk_all hq4 i1.rows
  have okl : ∀ q ∈ l, q.1.Ok ∧ q.1.k ≤ 3 ∧ (q.1.way = 0 ∨ q.1.way = 1 ∨ q.1.way = 2) := fun q hq => ok4 q (by simpa [l] using hq)
  have D4 : Hp K dr os s4 (z3 + dM tg + 7) (fx2 F.P tg (latD []) X Y2 A it due tab 0 x20 ++ ((lX F.P tg X M A x1 (mdi tg z3) (mdd tg z3) (mdo tg z3) ++ (lQ F.P 9 t ++ J1)) ++ (rowsL F.P X A qs ++ []))) := by
    have e : lB F.P X A x1 it due tab (frN F.P (List.range 20) ft fv) = fx2 F.P tg (latD []) X Y2 A it due tab 0 x20 := by cases tg <;> kernel_rfl
    rw [← e]
    simpa only [List.append_assoc] using D4
  have D4 := D4.perm ((perm_front _ _ _).append_left _)
  let κ12 : TK := .base (fun _ => True) fun r s' => r = .ok .next ∧ Good F.M 20 none κ (lawT F.T (12 + 1) (0 + 417)) s'
  have D4 : Hp K dr os s4 (z3 + dM tg + 7) (fx2 F.P tg (latD []) X Y2 A it due tab ([] : Rows).length x20 ++ (rowsL F.P X A l.reverse ++ (duesL X [] ++ (lX F.P tg X M A x1 (mdi tg z3) (mdd tg z3) (mdo tg z3) ++ (lQ F.P 9 t ++ J1) ++ [])))) := by rw [hlr]; exact D4
  have i20 : I2 tg (x1.e 2) [] [] x20 := ⟨rfl, rfl, rfl, fun u hu => (by cases hu)⟩
  have hsome : tg = true → ∀ q ∈ l, q.1.way ≠ 2 → (lookS (x1.e 2) q.1.op).isSome = true := fun h q hq => i1.p2 h q (by simpa [l] using hq)
  have hl14 : 1 ≤ l.length ∧ l.length ≤ 4 := by omega
  refine loop_good (loop2 (κ := κ12) (Y := X) (X := Y2) (A := A) (it := it) (due := due) (tab := tab) hA hR.r2 hR.e2 H HK (fun _ _ _ => trivial) hl14 (fun q hq => (okl q hq).1) i1.r0 i1.p0 (by have := i1.pz; omega) hsome l [] 21 [] x20 s4 _ (by decide) (by simp) i20 D4 fun s5 z5 ds x2 i2 D5 => ⟨rfl, ?_⟩)
  obtain ⟨v2, f3, hv2⟩ : ∃ v2 : Nat, SvFact (y.a 0) (x1.i 0) 3 (Int.ofNat v2) ∧ (v2 : Int) < 3 := by
    rw [i1.spot]
    have hs : qs.length = 1 ∨ qs.length = 2 ∨ qs.length = 3 ∨ qs.length = 4 := by omega
    rcases hs with e | e | e | e <;> rw [e]
    · exact drawN hc (r := 0) (by decide)
    · exact drawN hc (r := 2) (by decide)
    · exact drawN hc (r := 2) (by decide)
    · exact drawN hc (r := 2) (by decide)
  let told := latD ds
  have D5 : Hp K dr os s5 z5 (((it, itEnd (Int.ofNat l.length)) :: (fx2 F.P tg told X Y2 A it due tab l.length x2).tail) ++ (rowsL F.P X A l.reverse ++ (duesL X ds ++ (lX F.P tg X M A x1 (mdi tg z3) (mdd tg z3) (mdo tg z3) ++ (lQ F.P 9 t ++ J1))))) := by
    simpa only [List.append_assoc, List.append_nil] using D5
  have D5 := D5.perm ((perm5 _ _ _ _ _).append_left _)
  refine phC (tg := tg) (told := told) (z0 := 9) (f := 0) (sd := 1) (c := 5) (zb := z3) (v := v2) (it := it) (due := due) (tab := tab) (nn := l.length) (x := x1) (x' := x2) (y := y) (M := M) (t := t) (τb := τ) (τb' := τ') hA (hR.c told v2 (by omega)) H HK (Nat.le_refl 20) f3 i1.c0 i1.c3 (by have := i1.c2; omega) D5 fun s6 τ6 J6 D6 => ?_
  let S : Vals := SC (adr [0, 1, 5, AL tg 9 0 1 5 4, AL tg 9 0 1 5 12, AL tg 9 0 1 5 13, AL tg 9 0 1 5 14, AL tg 9 0 1 5 17] z5) τ6
  let Q : Vals := QA (aA 9) t
  let fv6 := fv3 tg Y2 A due tab x2
  let Z : Vals := X3 told (ftC (ft3 x2) τ6) (fvC v2 fv6 τ6 z5) x1
  let D3 : Ad3 := adC tg 9 0 1 5 z3 z5
  let x30 : Vals := x3s F.P fv6 (cnt3 v2) (cntT τ6 v2) x1
  have D6 : Hp K dr os s6 (z5 + 14) (fx3 F.P tg told X M S Q Z A D3 ([] : Rows).length x30 ++ (lE F.P X A x2 due tab ++ (J6 ++ (rowsL F.P X A l.reverse ++ (duesL X ds ++ J1))))) := D6
  have D6 := D6.perm (((perm5 _ _ _ _ _).trans ((perm_front _ _ _).append_left _)).append_left _)
  have i30 : I3 tg (x1.e 2) (cnt3 v2) [] l [] x30 := I3_start (by rw [hlr]; exact i1) (by omega)
  let W3 : Ctx → Prop := fun Γ => envsOf Γ.below = [lawEnv F.T (0 + 417)]
  let κ3 : TK := .base W3 fun r s' => (r = .ok .next ∧ Good F.M 20 none κ (lawT F.T 17 (0 + 417)) s') ∨ ∃ e, r = .error e ∧ Good F.M 20 none κ (errT F.T e (0 + 417)) s'
  have hW3 : ∀ (Γ : Ctx) p, κ.W Γ → W3 (Γ.enter (loopC3 F.T (rf (z5 + 13)) (0 + 417)) none p) := fun Γ p hΓ => by
    show envsOf ((Γ.code, p) :: Γ.below) = [lawEnv F.T (0 + 417)]
    rw [envsOf_cons, hΓ.2, hW0 Γ hΓ.1]
    rfl
  have hz : ZOk A due tab (cnt3 v2) (cntT τ6 v2) Z := by
    cases tg <;> cases told <;> exact ⟨by kernel_rfl, by kernel_rfl, by kernel_rfl, by kernel_rfl, by kernel_rfl⟩
  have hlen : ds.length ≤ 4 := Nat.le_trans i2.len hl14.2
  have ha : Z.a 0 = (l.map fun q => rf (q.2 + 64)).toArray := i1.r0
  have hq : X.r 0 = D3.q + 417 := by kernel_rfl
  have hz60 : (x1.e 2).size ≤ 60 := by have := i1.pz; omega
  have hrows : RowsOk l.reverse := by rw [hlr]; exact i1.rows
  have key : GoodC F.M 21 none κ3 (loopC3 F.T (rf D3.it) (A 1 + 417)) s6 := by
    refine loop3 (κ := κ3) (A := A) (D3 := D3) (tg := tg) (told := told) (X := X) (M := M) (S := S) (Q := Q) (Z := Z) (e0 := x1.e 2) (cnt := cnt3 v2) (l := l) (R := lE F.P X A x2 due tab ++ (duesL X ds ++ (J6 ++ J1))) hA hR.ri hR.rd hR.r3 hR.e3 H HK (fun Γ c h => h) hl14 hrows ha i1.p0 hz60 hsome ?_ l [] 21 [] x30 s6 (z5 + 14) (by decide) rfl i30 D6 ?_
    · intro done todo r zr hs x s z h1 h2 i3 h4 D n hn
      have hmem : (r, zr) ∈ l := by rw [h1]; simp
      have hget : l[done.length]? = some (r, zr) := by rw [h1]; simp
      obtain ⟨rok, rk, _⟩ := okl _ hmem
      have hit : ItFact (Z.a 0) done.length (A3 A D3 zr 2 + 417) := by rw [ha]; exact it_rows hget hl14.2
      have hcnt : cnt3 v2 = 20000 ∨ cnt3 v2 = 19999 ∨ cnt3 v2 = 0 := by
        unfold cnt3
        split
        · right; right; rfl
        · right; left; rfl
        · left; rfl
      exact raise_good (W := fun Γ => W Γ ∧ Γ.code = .func (lawBody F.T) (lawEnv F.T (0 + 417))) (P := P) (tg := tg) (told := told) (X := X) (M := M) (S := S) (Q := Q) (Z := Z) (x := x) (x2 := x2) (A := A) (D3 := D3) (due := due) (tab := tab) (cnt := cnt3 v2) (ct := cntT τ6 v2) (l := l) (done := done) (todo := todo) (r := r) (zr := zr) (hs := hs) (ds := ds) (e0 := x1.e 2)
        (L8 := hesL F.P ⟨X, M, S, Q, D3.mi, A 9⟩ hs) (R' := duesL X ds ++ (J6 ++ J1)) hX hA H HK hn (fun Γ h => h) (fun Γ h => by rw [h.2, hW0 Γ h.1]; rfl) hz hq h1 h2 hl14.2 rok rk hit hcnt i2 i3 h4 D (fun e s' h => .inr ⟨e, rfl, h⟩) (fun s' z' L' E => hend s' z' L' E)
    · intro s7 z7 hs x3 i3 D7
      refine .inl ⟨rfl, ?_⟩
      exact phD (κ := κ) (n := 20) (tg := tg) (told := told) (X := X) (M := M) (S := S) (Q := Q) (Z := Z) (x := x3) (x2 := x2) (A := A) (D3 := D3) (due := due) (tab := tab) (cnt := cnt3 v2) (ct := cntT τ6 v2) (l := l) (hs := hs) (ds := ds) (e0 := x1.e 2) (R := J6 ++ J1) (z := z7) (s := s7)
        hA (hR.d1 told) (hR.d2 told) (hR.d3 told) (hR.d4 told tg) H HK (Nat.le_refl 20) hz hq rfl hl14.2 (fun q hq => (okl q hq).2) i1.p0 i1.pd i1.pv i2 i3 D7 (fun s' z' L' E => hend s' z' L' E)
  exact loop3_good (κ := κ) (W := W3) hW3 key
end
end Mine
end
section
set_option maxRecDepth 100000
set_option maxHeartbeats 400000
namespace Mine
open PySem PySem.W PySem.W.X PyProof.Rows
theorem walk_of {kt : Params → KT} (hR : ∀ vals, Runs (ktS kt vals)) (hX : ∀ vals, XRuns (ktS kt vals)) : WalkGoal kt := fun w s ns vals hH hs hN hg h416 hv hl => by
  let F : Fix := ⟨ktS kt vals, w, w.params.followText "special-get-raises", w.params.followText "comprehension-iter-twice"⟩
  have H : F.Ok := ⟨rfl, rfl⟩
  let K : Addr → Option Obj := fun b => s.heap.get? b
  have get416 : ∀ a, (ktS kt vals w.params).get a = if a = 416 then some (lO vals.toArray 0) else (kt w.params).get a := fun a => get_putT (lO vals.toArray 0) 16 (kt w.params) 416 (by decide) a
  have HK : KOk F K := by
    refine ⟨fun a o e => ?_, fun h e => ?_⟩
    · have e : (ktS kt vals w.params).get a = some o := e
      rw [get416] at e
      by_cases q : a = 416
      · rw [if_pos q] at e
        injection e with e
        rw [q, ← e]
        exact h416
      · rw [if_neg q] at e
        exact hH.at_ _ _ e
    · exact Heap.NoLimit.keeps hN e
  have D : Hp K s.drawn s.os s 0 [] := ⟨hg, rfl, rfl, fun b o h => h, hs, fun p hp => (by cases hp), List.nodup_nil⟩
  refine law_join (F := F) (K := K) (dr := s.drawn) (os := s.os) (hR vals) (hX vals) H HK (fun Γ c h => h) (fun Γ h => h) ?_ hv hl D (fun s' z' L' E => ⟨rfl, fun b o h => E.keep b o h, E.gens, E.os⟩)
  show (ktS kt vals w.params).get 416 = _
  rw [get416, if_pos rfl]
end Mine
end
section
set_option maxRecDepth 100000
namespace Mine
open PySem PySem.W PySem.W.X PyProof.Rows
/-! what stands in the heap when the top has run: the objects that the law's calls read (printed by HPrint2; bodies of defs out of the row's constant) -/
noncomputable def hStmt : List Nat → List Stmt → Option Stmt
  | [], _ => none
  | i :: r, b => match b[i]? with
    | none => none
    | some st => match r with
      | [] => some st
      | _ :: _ => match st with
        | .ClassDef _ _ _ c _ _ _ _ _ _ _ => hStmt r c
        | _ => none
noncomputable def hFn (p : List Nat) (q : Str) (g : Addr) (cl : List (Str × Addr)) (df kd doc pm : Value) (an : Option Addr) (code ct : Value) (bi : Addr) : Data := match hStmt p PySem.Challenge.pw_rg0017_01.main.body with
  | some (.FunctionDef n as b _ _ _ sc _ _ _) => .func ⟨n, q, as, .stmts b, sc, g, cl, df, kd, doc, pm, an, code, ct, bi⟩
  | _ => .freed
noncomputable def h0 : Str := .mk #[95, 95, 110, 97, 109, 101, 95, 95]
noncomputable def h1 : Str := .mk #[98, 117, 105, 108, 116, 105, 110, 115]
noncomputable def h2 : Str := .mk #[95, 95, 100, 111, 99, 95, 95]
noncomputable def h3 : Str := .mk #[95, 95, 112, 97, 99, 107, 97, 103, 101, 95, 95]
noncomputable def h4 : Str := .mk #[95, 95, 108, 111, 97, 100, 101, 114, 95, 95]
noncomputable def h5 : Str := .mk #[95, 95, 115, 112, 101, 99, 95, 95]
noncomputable def h6 : Str := .mk #[95, 95, 98, 117, 105, 108, 100, 95, 99, 108, 97, 115, 115, 95, 95]
noncomputable def h7 : Str := .mk #[95, 95, 105, 109, 112, 111, 114, 116, 95, 95]
noncomputable def h8 : Str := .mk #[97, 98, 115]
noncomputable def h9 : Str := .mk #[97, 108, 108]
noncomputable def h10 : Str := .mk #[97, 110, 121]
noncomputable def h11 : Str := .mk #[97, 115, 99, 105, 105]
noncomputable def h12 : Str := .mk #[98, 105, 110]
noncomputable def h13 : Str := .mk #[98, 114, 101, 97, 107, 112, 111, 105, 110, 116]
noncomputable def h14 : Str := .mk #[99, 97, 108, 108, 97, 98, 108, 101]
noncomputable def h15 : Str := .mk #[99, 104, 114]
noncomputable def h16 : Str := .mk #[99, 111, 109, 112, 105, 108, 101]
noncomputable def h17 : Str := .mk #[100, 101, 108, 97, 116, 116, 114]
noncomputable def h18 : Str := .mk #[100, 105, 114]
noncomputable def h19 : Str := .mk #[100, 105, 118, 109, 111, 100]
noncomputable def h20 : Str := .mk #[101, 118, 97, 108]
noncomputable def h21 : Str := .mk #[101, 120, 101, 99]
noncomputable def h22 : Str := .mk #[102, 111, 114, 109, 97, 116]
noncomputable def h23 : Str := .mk #[103, 101, 116, 97, 116, 116, 114]
noncomputable def h24 : Str := .mk #[103, 108, 111, 98, 97, 108, 115]
noncomputable def h25 : Str := .mk #[104, 97, 115, 97, 116, 116, 114]
noncomputable def h26 : Str := .mk #[104, 97, 115, 104]
noncomputable def h27 : Str := .mk #[104, 101, 120]
noncomputable def h28 : Str := .mk #[105, 100]
noncomputable def h29 : Str := .mk #[105, 110, 112, 117, 116]
noncomputable def h30 : Str := .mk #[105, 115, 105, 110, 115, 116, 97, 110, 99, 101]
noncomputable def h31 : Str := .mk #[105, 115, 115, 117, 98, 99, 108, 97, 115, 115]
noncomputable def h32 : Str := .mk #[105, 116, 101, 114]
noncomputable def h33 : Str := .mk #[97, 105, 116, 101, 114]
noncomputable def h34 : Str := .mk #[108, 101, 110]
noncomputable def h35 : Str := .mk #[108, 111, 99, 97, 108, 115]
noncomputable def h36 : Str := .mk #[109, 97, 120]
noncomputable def h37 : Str := .mk #[109, 105, 110]
noncomputable def h38 : Str := .mk #[110, 101, 120, 116]
noncomputable def h39 : Str := .mk #[97, 110, 101, 120, 116]
noncomputable def h40 : Str := .mk #[111, 99, 116]
noncomputable def h41 : Str := .mk #[111, 114, 100]
noncomputable def h42 : Str := .mk #[112, 111, 119]
noncomputable def h43 : Str := .mk #[112, 114, 105, 110, 116]
noncomputable def h44 : Str := .mk #[114, 101, 112, 114]
noncomputable def h45 : Str := .mk #[114, 111, 117, 110, 100]
noncomputable def h46 : Str := .mk #[115, 101, 116, 97, 116, 116, 114]
noncomputable def h47 : Str := .mk #[115, 111, 114, 116, 101, 100]
noncomputable def h48 : Str := .mk #[115, 117, 109]
noncomputable def h49 : Str := .mk #[118, 97, 114, 115]
noncomputable def h50 : Str := .mk #[78, 111, 110, 101]
noncomputable def h51 : Str := .mk #[69, 108, 108, 105, 112, 115, 105, 115]
noncomputable def h52 : Str := .mk #[78, 111, 116, 73, 109, 112, 108, 101, 109, 101, 110, 116, 101, 100]
noncomputable def h53 : Str := .mk #[70, 97, 108, 115, 101]
noncomputable def h54 : Str := .mk #[84, 114, 117, 101]
noncomputable def h55 : Str := .mk #[98, 111, 111, 108]
noncomputable def h56 : Str := .mk #[109, 101, 109, 111, 114, 121, 118, 105, 101, 119]
noncomputable def h57 : Str := .mk #[98, 121, 116, 101, 97, 114, 114, 97, 121]
noncomputable def h58 : Str := .mk #[98, 121, 116, 101, 115]
noncomputable def h59 : Str := .mk #[99, 108, 97, 115, 115, 109, 101, 116, 104, 111, 100]
noncomputable def h60 : Str := .mk #[99, 111, 109, 112, 108, 101, 120]
noncomputable def h61 : Str := .mk #[100, 105, 99, 116]
noncomputable def h62 : Str := .mk #[101, 110, 117, 109, 101, 114, 97, 116, 101]
noncomputable def h63 : Str := .mk #[102, 105, 108, 116, 101, 114]
noncomputable def h64 : Str := .mk #[102, 108, 111, 97, 116]
noncomputable def h65 : Str := .mk #[102, 114, 111, 122, 101, 110, 115, 101, 116]
noncomputable def h66 : Str := .mk #[112, 114, 111, 112, 101, 114, 116, 121]
noncomputable def h67 : Str := .mk #[105, 110, 116]
noncomputable def h68 : Str := .mk #[108, 105, 115, 116]
noncomputable def h69 : Str := .mk #[109, 97, 112]
noncomputable def h70 : Str := .mk #[111, 98, 106, 101, 99, 116]
noncomputable def h71 : Str := .mk #[114, 97, 110, 103, 101]
noncomputable def h72 : Str := .mk #[114, 101, 118, 101, 114, 115, 101, 100]
noncomputable def h73 : Str := .mk #[115, 101, 116]
noncomputable def h74 : Str := .mk #[115, 108, 105, 99, 101]
noncomputable def h75 : Str := .mk #[115, 116, 97, 116, 105, 99, 109, 101, 116, 104, 111, 100]
noncomputable def h76 : Str := .mk #[115, 116, 114]
noncomputable def h77 : Str := .mk #[115, 117, 112, 101, 114]
noncomputable def h78 : Str := .mk #[116, 117, 112, 108, 101]
noncomputable def h79 : Str := .mk #[116, 121, 112, 101]
noncomputable def h80 : Str := .mk #[122, 105, 112]
noncomputable def h81 : Str := .mk #[95, 95, 100, 101, 98, 117, 103, 95, 95]
noncomputable def h82 : Str := .mk #[66, 97, 115, 101, 69, 120, 99, 101, 112, 116, 105, 111, 110]
noncomputable def h83 : Str := .mk #[66, 97, 115, 101, 69, 120, 99, 101, 112, 116, 105, 111, 110, 71, 114, 111, 117, 112]
noncomputable def h84 : Str := .mk #[69, 120, 99, 101, 112, 116, 105, 111, 110]
noncomputable def h85 : Str := .mk #[71, 101, 110, 101, 114, 97, 116, 111, 114, 69, 120, 105, 116]
noncomputable def h86 : Str := .mk #[75, 101, 121, 98, 111, 97, 114, 100, 73, 110, 116, 101, 114, 114, 117, 112, 116]
noncomputable def h87 : Str := .mk #[83, 121, 115, 116, 101, 109, 69, 120, 105, 116]
noncomputable def h88 : Str := .mk #[65, 114, 105, 116, 104, 109, 101, 116, 105, 99, 69, 114, 114, 111, 114]
noncomputable def h89 : Str := .mk #[65, 115, 115, 101, 114, 116, 105, 111, 110, 69, 114, 114, 111, 114]
noncomputable def h90 : Str := .mk #[65, 116, 116, 114, 105, 98, 117, 116, 101, 69, 114, 114, 111, 114]
noncomputable def h91 : Str := .mk #[66, 117, 102, 102, 101, 114, 69, 114, 114, 111, 114]
noncomputable def h92 : Str := .mk #[69, 79, 70, 69, 114, 114, 111, 114]
noncomputable def h93 : Str := .mk #[73, 109, 112, 111, 114, 116, 69, 114, 114, 111, 114]
noncomputable def h94 : Str := .mk #[76, 111, 111, 107, 117, 112, 69, 114, 114, 111, 114]
noncomputable def h95 : Str := .mk #[77, 101, 109, 111, 114, 121, 69, 114, 114, 111, 114]
noncomputable def h96 : Str := .mk #[78, 97, 109, 101, 69, 114, 114, 111, 114]
noncomputable def h97 : Str := .mk #[79, 83, 69, 114, 114, 111, 114]
noncomputable def h98 : Str := .mk #[82, 101, 102, 101, 114, 101, 110, 99, 101, 69, 114, 114, 111, 114]
noncomputable def h99 : Str := .mk #[82, 117, 110, 116, 105, 109, 101, 69, 114, 114, 111, 114]
noncomputable def h100 : Str := .mk #[83, 116, 111, 112, 65, 115, 121, 110, 99, 73, 116, 101, 114, 97, 116, 105, 111, 110]
noncomputable def h101 : Str := .mk #[83, 116, 111, 112, 73, 116, 101, 114, 97, 116, 105, 111, 110]
noncomputable def h102 : Str := .mk #[83, 121, 110, 116, 97, 120, 69, 114, 114, 111, 114]
noncomputable def h103 : Str := .mk #[83, 121, 115, 116, 101, 109, 69, 114, 114, 111, 114]
noncomputable def h104 : Str := .mk #[84, 121, 112, 101, 69, 114, 114, 111, 114]
noncomputable def h105 : Str := .mk #[86, 97, 108, 117, 101, 69, 114, 114, 111, 114]
noncomputable def h106 : Str := .mk #[87, 97, 114, 110, 105, 110, 103]
noncomputable def h107 : Str := .mk #[70, 108, 111, 97, 116, 105, 110, 103, 80, 111, 105, 110, 116, 69, 114, 114, 111, 114]
noncomputable def h108 : Str := .mk #[79, 118, 101, 114, 102, 108, 111, 119, 69, 114, 114, 111, 114]
noncomputable def h109 : Str := .mk #[90, 101, 114, 111, 68, 105, 118, 105, 115, 105, 111, 110, 69, 114, 114, 111, 114]
noncomputable def h110 : Str := .mk #[66, 121, 116, 101, 115, 87, 97, 114, 110, 105, 110, 103]
noncomputable def h111 : Str := .mk #[68, 101, 112, 114, 101, 99, 97, 116, 105, 111, 110, 87, 97, 114, 110, 105, 110, 103]
noncomputable def h112 : Str := .mk #[69, 110, 99, 111, 100, 105, 110, 103, 87, 97, 114, 110, 105, 110, 103]
noncomputable def h113 : Str := .mk #[70, 117, 116, 117, 114, 101, 87, 97, 114, 110, 105, 110, 103]
noncomputable def h114 : Str := .mk #[73, 109, 112, 111, 114, 116, 87, 97, 114, 110, 105, 110, 103]
noncomputable def h115 : Str := .mk #[80, 101, 110, 100, 105, 110, 103, 68, 101, 112, 114, 101, 99, 97, 116, 105, 111, 110, 87, 97, 114, 110, 105, 110, 103]
noncomputable def h116 : Str := .mk #[82, 101, 115, 111, 117, 114, 99, 101, 87, 97, 114, 110, 105, 110, 103]
noncomputable def h117 : Str := .mk #[82, 117, 110, 116, 105, 109, 101, 87, 97, 114, 110, 105, 110, 103]
noncomputable def h118 : Str := .mk #[83, 121, 110, 116, 97, 120, 87, 97, 114, 110, 105, 110, 103]
noncomputable def h119 : Str := .mk #[85, 110, 105, 99, 111, 100, 101, 87, 97, 114, 110, 105, 110, 103]
noncomputable def h120 : Str := .mk #[85, 115, 101, 114, 87, 97, 114, 110, 105, 110, 103]
noncomputable def h121 : Str := .mk #[66, 108, 111, 99, 107, 105, 110, 103, 73, 79, 69, 114, 114, 111, 114]
noncomputable def h122 : Str := .mk #[67, 104, 105, 108, 100, 80, 114, 111, 99, 101, 115, 115, 69, 114, 114, 111, 114]
noncomputable def h123 : Str := .mk #[67, 111, 110, 110, 101, 99, 116, 105, 111, 110, 69, 114, 114, 111, 114]
noncomputable def h124 : Str := .mk #[70, 105, 108, 101, 69, 120, 105, 115, 116, 115, 69, 114, 114, 111, 114]
noncomputable def h125 : Str := .mk #[70, 105, 108, 101, 78, 111, 116, 70, 111, 117, 110, 100, 69, 114, 114, 111, 114]
noncomputable def h126 : Str := .mk #[73, 110, 116, 101, 114, 114, 117, 112, 116, 101, 100, 69, 114, 114, 111, 114]
noncomputable def h127 : Str := .mk #[73, 115, 65, 68, 105, 114, 101, 99, 116, 111, 114, 121, 69, 114, 114, 111, 114]
noncomputable def h128 : Str := .mk #[78, 111, 116, 65, 68, 105, 114, 101, 99, 116, 111, 114, 121, 69, 114, 114, 111, 114]
noncomputable def h129 : Str := .mk #[80, 101, 114, 109, 105, 115, 115, 105, 111, 110, 69, 114, 114, 111, 114]
noncomputable def h130 : Str := .mk #[80, 114, 111, 99, 101, 115, 115, 76, 111, 111, 107, 117, 112, 69, 114, 114, 111, 114]
noncomputable def h131 : Str := .mk #[84, 105, 109, 101, 111, 117, 116, 69, 114, 114, 111, 114]
noncomputable def h132 : Str := .mk #[73, 110, 100, 101, 110, 116, 97, 116, 105, 111, 110, 69, 114, 114, 111, 114]
noncomputable def h133 : Str := .mk #[95, 73, 110, 99, 111, 109, 112, 108, 101, 116, 101, 73, 110, 112, 117, 116, 69, 114, 114, 111, 114]
noncomputable def h134 : Str := .mk #[73, 110, 100, 101, 120, 69, 114, 114, 111, 114]
noncomputable def h135 : Str := .mk #[75, 101, 121, 69, 114, 114, 111, 114]
noncomputable def h136 : Str := .mk #[77, 111, 100, 117, 108, 101, 78, 111, 116, 70, 111, 117, 110, 100, 69, 114, 114, 111, 114]
noncomputable def h137 : Str := .mk #[78, 111, 116, 73, 109, 112, 108, 101, 109, 101, 110, 116, 101, 100, 69, 114, 114, 111, 114]
noncomputable def h138 : Str := .mk #[80, 121, 116, 104, 111, 110, 70, 105, 110, 97, 108, 105, 122, 97, 116, 105, 111, 110, 69, 114, 114, 111, 114]
noncomputable def h139 : Str := .mk #[82, 101, 99, 117, 114, 115, 105, 111, 110, 69, 114, 114, 111, 114]
noncomputable def h140 : Str := .mk #[85, 110, 98, 111, 117, 110, 100, 76, 111, 99, 97, 108, 69, 114, 114, 111, 114]
noncomputable def h141 : Str := .mk #[85, 110, 105, 99, 111, 100, 101, 69, 114, 114, 111, 114]
noncomputable def h142 : Str := .mk #[66, 114, 111, 107, 101, 110, 80, 105, 112, 101, 69, 114, 114, 111, 114]
noncomputable def h143 : Str := .mk #[67, 111, 110, 110, 101, 99, 116, 105, 111, 110, 65, 98, 111, 114, 116, 101, 100, 69, 114, 114, 111, 114]
noncomputable def h144 : Str := .mk #[67, 111, 110, 110, 101, 99, 116, 105, 111, 110, 82, 101, 102, 117, 115, 101, 100, 69, 114, 114, 111, 114]
noncomputable def h145 : Str := .mk #[67, 111, 110, 110, 101, 99, 116, 105, 111, 110, 82, 101, 115, 101, 116, 69, 114, 114, 111, 114]
noncomputable def h146 : Str := .mk #[84, 97, 98, 69, 114, 114, 111, 114]
noncomputable def h147 : Str := .mk #[85, 110, 105, 99, 111, 100, 101, 68, 101, 99, 111, 100, 101, 69, 114, 114, 111, 114]
noncomputable def h148 : Str := .mk #[85, 110, 105, 99, 111, 100, 101, 69, 110, 99, 111, 100, 101, 69, 114, 114, 111, 114]
noncomputable def h149 : Str := .mk #[85, 110, 105, 99, 111, 100, 101, 84, 114, 97, 110, 115, 108, 97, 116, 101, 69, 114, 114, 111, 114]
noncomputable def h150 : Str := .mk #[69, 120, 99, 101, 112, 116, 105, 111, 110, 71, 114, 111, 117, 112]
noncomputable def h151 : Str := .mk #[69, 110, 118, 105, 114, 111, 110, 109, 101, 110, 116, 69, 114, 114, 111, 114]
noncomputable def h152 : Str := .mk #[73, 79, 69, 114, 114, 111, 114]
noncomputable def h153 : Str := .mk #[111, 112, 101, 110]
noncomputable def h154 : Str := .mk #[113, 117, 105, 116]
noncomputable def h155 : Str := .mk #[101, 120, 105, 116]
noncomputable def h156 : Str := .mk #[99, 111, 112, 121, 114, 105, 103, 104, 116]
noncomputable def h157 : Str := .mk #[99, 114, 101, 100, 105, 116, 115]
noncomputable def h158 : Str := .mk #[108, 105, 99, 101, 110, 115, 101]
noncomputable def h159 : Str := .mk #[104, 101, 108, 112]
noncomputable def h160 : Str := .mk #[116, 121, 112, 101, 46, 95, 95, 115, 117, 98, 99, 108, 97, 115, 115, 101, 115, 95, 95, 46, 69, 120, 99, 101, 112, 116, 105, 111, 110, 46, 48]
noncomputable def h161 : Str := .mk #[116, 121, 112, 101, 46, 95, 95, 115, 117, 98, 99, 108, 97, 115, 115, 101, 115, 95, 95, 46, 69, 120, 99, 101, 112, 116, 105, 111, 110, 46, 110]
noncomputable def h162 : Str := .mk #[108, 97, 119, 95, 114, 103, 48, 48, 49, 55, 95, 48, 49]
noncomputable def h163 : Str := .mk #[95, 95, 97, 110, 110, 111, 116, 97, 116, 105, 111, 110, 115, 95, 95]
noncomputable def h164 : Str := .mk #[95, 95, 98, 117, 105, 108, 116, 105, 110, 115, 95, 95]
noncomputable def h165 : Str := .mk #[95, 95, 102, 105, 108, 101, 95, 95]
noncomputable def h166 : Str := .mk #[47, 99, 108, 97, 105, 109, 47, 99, 117, 116, 46, 112, 121]
noncomputable def h167 : Str := .mk #[95, 95, 99, 97, 99, 104, 101, 100, 95, 95]
noncomputable def h168 : Str := .mk #[83, 117, 98]
noncomputable def h169 : Str := .mk #[69, 110, 116, 105, 116, 121]
noncomputable def h170 : Str := .mk #[104, 111, 109, 111, 103, 114, 97, 112, 104, 115]
noncomputable def h171 : Str := .mk #[65, 100, 97, 69, 114, 114, 111, 114]
noncomputable def h172 : Str := .mk #[67, 104, 101, 99, 107, 70, 97, 117, 108, 116]
noncomputable def h173 : Str := .mk #[114, 101, 102, 117, 115, 101]
noncomputable def h174 : Str := .mk #[105, 115, 95, 115, 101, 116, 116, 108, 101, 100]
noncomputable def h175 : Str := .mk #[83, 69, 80, 65, 82, 65, 84, 79, 82]
noncomputable def h176 : Str := .mk #[35]
noncomputable def h177 : Str := .mk #[117, 110, 105, 113, 117, 101]
noncomputable def h178 : Str := .mk #[70, 82, 65, 77, 69, 95, 75, 73, 78, 68, 83]
noncomputable def h179 : Str := .mk #[82, 101, 103, 105, 111, 110]
noncomputable def h180 : Str := .mk #[111, 112, 101, 110, 95, 114, 101, 103, 105, 111, 110]
noncomputable def h181 : Str := .mk #[102, 114, 97, 109, 101, 95, 114, 101, 103, 105, 111, 110]
noncomputable def h182 : Str := .mk #[103, 105, 118, 101, 95, 117, 110, 105, 113, 117, 101]
noncomputable def h183 : Str := .mk #[115, 101, 116, 116, 108, 101, 95, 114, 105, 118, 97, 108, 115]
noncomputable def h184 : Str := .mk #[100, 101, 99, 108, 97, 114, 101]
noncomputable def h185 : Str := .mk #[109, 97, 107, 101, 95, 114, 101, 97, 100, 121]
noncomputable def h186 : Str := .mk #[100, 101, 99, 108, 97, 114, 101, 95, 114, 101, 97, 100, 121]
noncomputable def h187 : Str := .mk #[110, 111, 116, 101, 95, 116, 121, 112, 101]
noncomputable def h188 : Str := .mk #[108, 101, 97, 100, 95, 116, 111]
noncomputable def h189 : Str := .mk #[84, 121, 112, 101]
noncomputable def h190 : Str := .mk #[83, 117, 98, 116, 121, 112, 101]
noncomputable def h191 : Str := .mk #[105, 110, 116, 95, 116, 121, 112, 101]
noncomputable def h192 : Str := .mk #[114, 101, 99, 111, 114, 100, 95, 116, 121, 112, 101]
noncomputable def h193 : Str := .mk #[100, 101, 114, 105, 118, 101, 100, 95, 116, 121, 112, 101]
noncomputable def h194 : Str := .mk #[110, 117, 109, 98, 101, 114, 101, 100]
noncomputable def h195 : Str := .mk #[119, 104, 111, 108, 101, 95, 115, 117, 98, 116, 121, 112, 101]
noncomputable def h196 : Str := .mk #[73, 78, 72, 69, 82, 73, 84, 69, 68]
noncomputable def h197 : Str := .mk #[35, 105, 110, 104, 101, 114, 105, 116, 101, 100]
noncomputable def h198 : Str := .mk #[77, 79, 83, 84, 95, 73, 78, 72, 69, 82, 73, 84, 69, 68]
noncomputable def h199 : Str := .mk #[99, 104, 97, 110, 103, 101, 100, 95, 115, 117, 98, 116, 121, 112, 101]
noncomputable def h200 : Str := .mk #[105, 110, 104, 101, 114, 105, 116, 101, 100, 95, 101, 110, 116, 105, 116, 121]
noncomputable def h201 : Str := .mk #[115, 116, 97, 110, 100, 95, 105, 110]
noncomputable def h202 : Str := .mk #[99, 111, 117, 110, 116, 95, 105, 109, 112, 108, 105, 99, 105, 116]
noncomputable def h203 : Str := .mk #[100, 101, 99, 108, 97, 114, 101, 95, 105, 110, 104, 101, 114, 105, 116, 101, 100]
noncomputable def h204 : Str := .mk #[83, 99, 111, 112, 101]
noncomputable def h205 : Str := .mk #[76, 105, 109, 105, 116, 115]
noncomputable def h206 : Str := .mk #[77, 79, 83, 84, 95, 80, 82, 73, 86, 65, 84, 69]
noncomputable def h207 : Str := .mk #[102, 117, 108, 108, 95, 115, 117, 98, 116, 121, 112, 101]
noncomputable def h208 : Str := .mk #[102, 117, 108, 108, 95, 116, 121, 112, 101]
noncomputable def h209 : Str := .mk #[118, 97, 114, 105, 97, 110, 116, 95, 110, 97, 109, 101, 115]
noncomputable def h210 : Str := .mk #[99, 104, 101, 99, 107, 95, 110, 101, 119, 95, 110, 97, 109, 101, 115]
noncomputable def h211 : Str := .mk #[108, 97, 121, 95, 98, 101, 104, 105, 110, 100]
noncomputable def h212 : Str := .mk #[101, 120, 116, 101, 110, 100, 95, 116, 121, 112, 101]
noncomputable def h213 : Str := .mk #[95, 108, 97, 119, 95, 114, 101, 115, 116]
noncomputable def h214 : Str := .mk #[95, 108, 97, 119, 95, 115, 105, 101, 118, 101]
noncomputable def h215 : Str := .mk #[95, 108, 97, 119, 95, 102, 117, 110, 99, 116, 105, 111, 110]
noncomputable def h216 : Str := .mk #[108, 97, 119]
noncomputable def h217 : Str := .mk #[95, 95, 105, 110, 105, 116, 95, 95]
noncomputable def h218 : Str := .mk #[83, 117, 98, 46, 95, 95, 105, 110, 105, 116, 95, 95]
noncomputable def h219 : Str := .mk #[97, 100, 97, 99, 111, 114, 101, 46, 98, 111, 100, 105, 101, 115]
noncomputable def h220 : Str := .mk #[95, 95, 109, 111, 100, 117, 108, 101, 95, 95]
noncomputable def h221 : Str := .mk #[95, 95, 102, 105, 114, 115, 116, 108, 105, 110, 101, 110, 111, 95, 95]
noncomputable def h222 : Str := .mk #[95, 95, 115, 116, 97, 116, 105, 99, 95, 97, 116, 116, 114, 105, 98, 117, 116, 101, 115, 95, 95]
noncomputable def h223 : Str := .mk #[95, 95, 100, 105, 99, 116, 95, 95]
noncomputable def h224 : Str := .mk #[95, 95, 119, 101, 97, 107, 114, 101, 102, 95, 95]
noncomputable def h225 : Str := .mk #[69, 110, 116, 105, 116, 121, 46, 95, 95, 105, 110, 105, 116, 95, 95]
noncomputable def h226 : Str := .mk #[97, 100, 97, 99, 111, 114, 101, 46, 101, 110, 116, 105, 116, 105, 101, 115]
noncomputable def h227 : Str := .mk #[65, 100, 97, 69, 114, 114, 111, 114, 46, 95, 95, 105, 110, 105, 116, 95, 95]
noncomputable def h228 : Str := .mk #[97, 100, 97, 99, 111, 114, 101, 46, 101, 114, 114, 111, 114, 115]
noncomputable def h229 : Str := .mk #[67, 104, 101, 99, 107, 70, 97, 117, 108, 116, 46, 95, 95, 105, 110, 105, 116, 95, 95]
noncomputable def h230 : Str := .mk #[97, 100, 97, 99, 111, 114, 101, 46, 114, 110, 97, 109, 101, 115]
noncomputable def h231 : Str := .mk #[97, 100, 97, 99, 111, 114, 101, 46, 110, 97, 109, 101, 115]
noncomputable def h232 : Str := .mk #[114, 111, 111, 116]
noncomputable def h233 : Str := .mk #[115, 117, 98]
noncomputable def h234 : Str := .mk #[116, 97, 115, 107]
noncomputable def h235 : Str := .mk #[112, 114, 111, 116, 101, 99, 116, 101, 100]
noncomputable def h236 : Str := .mk #[82, 101, 103, 105, 111, 110, 46, 95, 95, 105, 110, 105, 116, 95, 95]
noncomputable def h237 : Str := .mk #[97, 100, 97, 99, 111, 114, 101, 46, 115, 99, 111, 112, 101, 115]
noncomputable def h238 : Str := .mk #[84, 121, 112, 101, 46, 95, 95, 105, 110, 105, 116, 95, 95]
noncomputable def h239 : Str := .mk #[97, 100, 97, 99, 111, 114, 101, 46, 116, 121, 112, 101, 115]
noncomputable def h240 : Str := .mk #[83, 117, 98, 116, 121, 112, 101, 46, 95, 95, 105, 110, 105, 116, 95, 95]
noncomputable def h241 : Str := .mk #[97, 100, 97, 99, 111, 114, 101, 46, 114, 116, 121, 112, 101, 100, 101, 99, 108]
noncomputable def h242 : Str := .mk #[83, 99, 111, 112, 101, 46, 95, 95, 105, 110, 105, 116, 95, 95]
noncomputable def h243 : Str := .mk #[97, 100, 97, 99, 111, 114, 101, 46, 99, 111, 110, 116, 101, 120, 116]
noncomputable def h244 : Str := .mk #[76, 105, 109, 105, 116, 115, 46, 95, 95, 105, 110, 105, 116, 95, 95]
noncomputable def h245 : Str := .mk #[97, 100, 97, 99, 111, 114, 101, 46, 108, 105, 109, 105, 116, 115]
noncomputable def h246 : Str := .mk #[97, 100, 97, 99, 111, 114, 101, 46, 114, 101, 99, 111, 114, 100, 115]
noncomputable def h247 : Str := .mk #[97, 100, 97, 99, 111, 114, 101, 46, 116, 97, 103, 103, 101, 100]
noncomputable def ho0 (P : Params) : Obj := let e := ent P; ⟨(.type "dict"), none, (.dict #[e h0 1 (.str h1 160), e h2 2 (.builtin "builtins.__doc__:str#opaque"), e h3 3 (.builtin "builtins.__package__:str#opaque"), e h4 4 (.builtin "builtins.__loader__:shared#opaque"), e h5 5 (.builtin "builtins.__spec__#opaque"), e h6 6 (.builtin "__build_class__"), e h7 7 (.builtin "__import__"), e h8 8 (.builtin "abs"), e h9 9 (.builtin "all"), e h10 10 (.builtin "any"), e h11 11 (.builtin "ascii"), e h12 12 (.builtin "bin"), e h13 13 (.builtin "breakpoint"), e h14 14 (.builtin "callable"), e h15 15 (.builtin "chr"), e h16 16 (.builtin "compile"), e h17 17 (.builtin "delattr"), e h18 18 (.builtin "dir"), e h19 19 (.builtin "divmod"), e h20 20 (.builtin "eval"), e h21 21 (.builtin "exec"), e h22 22 (.builtin "format"), e h23 23 (.builtin "getattr"), e h24 24 (.builtin "globals"), e h25 25 (.builtin "hasattr"), e h26 26 (.builtin "hash"), e h27 27 (.builtin "hex"), e h28 28 (.builtin "id"), e h29 29 (.builtin "input"), e h30 30 (.builtin "isinstance"), e h31 31 (.builtin "issubclass"), e h32 32 (.builtin "iter"), e h33 33 (.builtin "aiter"), e h34 34 (.builtin "len"), e h35 35 (.builtin "locals"), e h36 36 (.builtin "max"), e h37 37 (.builtin "min"), e h38 38 (.builtin "next"), e h39 39 (.builtin "anext"), e h40 40 (.builtin "oct"), e h41 41 (.builtin "ord"), e h42 42 (.builtin "pow"), e h43 43 (.builtin "print"), e h44 44 (.builtin "repr"), e h45 45 (.builtin "round"), e h46 46 (.builtin "setattr"), e h47 47 (.builtin "sorted"), e h48 48 (.builtin "sum"), e h49 49 (.builtin "vars"), e h50 50 .none, e h51 51 .ellipsis, e h52 52 .notImplemented, e h53 53 (.bool false), e h54 54 (.bool true), e h55 55 (.type "bool"), e h56 56 (.type "memoryview"), e h57 57 (.type "bytearray"), e h58 58 (.type "bytes"), e h59 59 (.type "classmethod"), e h60 60 (.type "complex"), e h61 61 (.type "dict"), e h62 62 (.type "enumerate"), e h63 63 (.type "filter"), e h64 64 (.type "float"), e h65 65 (.type "frozenset"), e h66 66 (.type "property"), e h67 67 (.type "int"), e h68 68 (.type "list"), e h69 69 (.type "map"), e h70 70 (.type "object"), e h71 71 (.type "range"), e h72 72 (.type "reversed"), e h73 73 (.type "set"), e h74 74 (.type "slice"), e h75 75 (.type "staticmethod"), e h76 76 (.type "str"), e h77 77 (.type "super"), e h78 78 (.type "tuple"), e h79 79 (.type "type"), e h80 80 (.type "zip"), e h81 81 (.bool true), e h82 82 (.type "BaseException"), e h83 83 (.type "BaseExceptionGroup"), e h84 84 (.type "Exception"), e h85 85 (.type "GeneratorExit"), e h86 86 (.type "KeyboardInterrupt"), e h87 87 (.type "SystemExit"), e h88 88 (.type "ArithmeticError"), e h89 89 (.type "AssertionError"), e h90 90 (.type "AttributeError"), e h91 91 (.type "BufferError"), e h92 92 (.type "EOFError"), e h93 93 (.type "ImportError"), e h94 94 (.type "LookupError"), e h95 95 (.type "MemoryError"), e h96 96 (.type "NameError"), e h97 97 (.type "OSError"), e h98 98 (.type "ReferenceError"), e h99 99 (.type "RuntimeError"), e h100 100 (.type "StopAsyncIteration"), e h101 101 (.type "StopIteration"), e h102 102 (.type "SyntaxError"), e h103 103 (.type "SystemError"), e h104 104 (.type "TypeError"), e h105 105 (.type "ValueError"), e h106 106 (.type "Warning"), e h107 107 (.type "FloatingPointError"), e h108 108 (.type "OverflowError"), e h109 109 (.type "ZeroDivisionError"), e h110 110 (.type "BytesWarning"), e h111 111 (.type "DeprecationWarning"), e h112 112 (.type "EncodingWarning"), e h113 113 (.type "FutureWarning"), e h114 114 (.type "ImportWarning"), e h115 115 (.type "PendingDeprecationWarning"), e h116 116 (.type "ResourceWarning"), e h117 117 (.type "RuntimeWarning"), e h118 118 (.type "SyntaxWarning"), e h119 119 (.type "UnicodeWarning"), e h120 120 (.type "UserWarning"), e h121 121 (.type "BlockingIOError"), e h122 122 (.type "ChildProcessError"), e h123 123 (.type "ConnectionError"), e h124 124 (.type "FileExistsError"), e h125 125 (.type "FileNotFoundError"), e h126 126 (.type "InterruptedError"), e h127 127 (.type "IsADirectoryError"), e h128 128 (.type "NotADirectoryError"), e h129 129 (.type "PermissionError"), e h130 130 (.type "ProcessLookupError"), e h131 131 (.type "TimeoutError"), e h132 132 (.type "IndentationError"), e h133 133 (.type "_IncompleteInputError"), e h134 134 (.type "IndexError"), e h135 135 (.type "KeyError"), e h136 136 (.type "ModuleNotFoundError"), e h137 137 (.type "NotImplementedError"), e h138 138 (.type "PythonFinalizationError"), e h139 139 (.type "RecursionError"), e h140 140 (.type "UnboundLocalError"), e h141 141 (.type "UnicodeError"), e h142 142 (.type "BrokenPipeError"), e h143 143 (.type "ConnectionAbortedError"), e h144 144 (.type "ConnectionRefusedError"), e h145 145 (.type "ConnectionResetError"), e h146 146 (.type "TabError"), e h147 147 (.type "UnicodeDecodeError"), e h148 148 (.type "UnicodeEncodeError"), e h149 149 (.type "UnicodeTranslateError"), e h150 150 (.type "ExceptionGroup"), e h151 151 (.type "OSError"), e h152 152 (.type "OSError"), e h153 153 (.builtin "open"), e h154 154 (.builtin "builtins.quit#opaque"), e h155 155 (.builtin "builtins.exit#opaque"), e h156 156 (.builtin "builtins.copyright#opaque"), e h157 157 (.builtin "builtins.credits#opaque"), e h158 158 (.builtin "builtins.license#opaque"), e h159 159 (.builtin "builtins.help#opaque")] 159), #[]⟩
noncomputable def ho2 (P : Params) : Obj := let e := ent P; ⟨.none, none, (.dict #[e h160 315 (.int 80 0), e h161 316 (.int 1 0)] 2), #[]⟩
noncomputable def ho3 (P : Params) : Obj := let e := ent P; ⟨(.type "dict"), none, (.dict #[e h0 165 (.str h162 845), e h2 166 .none, e h3 167 .none, e h4 168 (.builtin "__main__.__loader__#opaque"), e h5 169 .none, e h163 170 (.ref 6), e h164 171 (.ref 4), e h165 173 (.str h166 172), e h167 174 .none, e h168 227 (.ref 31), e h169 279 (.ref 52), e h170 287 (.ref 63), e h171 318 (.ref 80), e h172 344 (.ref 100), e h173 354 (.ref 109), e h174 364 (.ref 116), e h175 368 (.str h176 367), e h177 376 (.ref 123), e h178 383 (.ref 124), e h179 428 (.ref 141), e h180 438 (.ref 152), e h181 446 (.ref 159), e h182 456 (.ref 166), e h183 462 (.ref 171), e h184 470 (.ref 178), e h185 477 (.ref 185), e h186 485 (.ref 192), e h187 493 (.ref 199), e h188 502 (.ref 206), e h189 557 (.ref 223), e h190 588 (.ref 244), e h191 598 (.ref 255), e h192 609 (.ref 262), e h193 618 (.ref 269), e h194 626 (.ref 276), e h195 633 (.ref 283), e h196 637 (.str h197 636), e h198 639 (.int 20000 638), e h199 648 (.ref 290), e h200 654 (.ref 295), e h201 660 (.ref 300), e h202 668 (.ref 307), e h203 681 (.ref 314), e h204 727 (.ref 331), e h205 785 (.ref 353), e h206 789 (.int 41 788), e h207 798 (.ref 364), e h208 805 (.ref 371), e h209 813 (.ref 376), e h210 821 (.ref 381), e h211 832 (.ref 388), e h212 844 (.ref 395), e h213 853 (.ref 396), e h214 862 (.ref 403), e h215 875 (.ref 410), e h216 881 (.ref 415)] 56), #[]⟩
noncomputable def ho27 (P : Params) : Obj := ⟨(.type "code"), none, (.fields #[(.str h217 201), (.str h218 202), (.str h166 203), (.int 4 0), (.int 2 0), (.int 0 0), (.int 0 0), (.int 3 0), (.ref 22), (.bool true), (.int 181 0), (.ref 23), .none, (.ref 24), (.ref 25), (.ref 26), (.int 206 0), (.int 4 0), (.str h166 207)]), #[]⟩
noncomputable def ho28 (P : Params) : Obj := ⟨(.type "function"), none, (hFn [1, 0] h218 3 [] .none .none .none (.str h219 187) none (.ref 27) .none 0), #[]⟩
noncomputable def ho30 (P : Params) : Obj := let e := ent P; ⟨(.type "dict"), none, (.dict #[e h220 196 (.str h219 187), e h221 200 (.int 2 199), e h217 208 (.ref 28), e h222 220 (.ref 29), e h223 222 (.ref 32), e h224 224 (.ref 33), e h2 225 .none] 4), #[]⟩
noncomputable def ho31 (P : Params) : Obj := ⟨(.type "type"), none, (.cls ⟨h168, [(.type "object")], [(.ref 31), (.type "object")], 30, h168, true, [], [], false, none, false⟩), #[none, none, some (.str h168 189), some (.str h168 197), some (.builtin "object.__new__"), some (.bool true)]⟩
noncomputable def ho48 (P : Params) : Obj := ⟨(.type "code"), none, (.fields #[(.str h217 242), (.str h225 243), (.str h166 244), (.int 19 0), (.int 7 0), (.int 0 0), (.int 0 0), (.int 3 0), (.ref 43), (.bool true), (.int 181 0), (.ref 44), .none, (.ref 45), (.ref 46), (.ref 47), (.int 252 0), (.int 19 0), (.str h166 253)]), #[]⟩
noncomputable def ho49 (P : Params) : Obj := ⟨(.type "function"), none, (hFn [3, 0] h225 3 [] .none .none .none (.str h226 228) none (.ref 48) .none 0), #[]⟩
noncomputable def ho51 (P : Params) : Obj := let e := ent P; ⟨(.type "dict"), none, (.dict #[e h220 237 (.str h226 228), e h221 241 (.int 17 240), e h217 254 (.ref 49), e h222 272 (.ref 50), e h223 274 (.ref 53), e h224 276 (.ref 54), e h2 277 .none] 4), #[]⟩
noncomputable def ho52 (P : Params) : Obj := ⟨(.type "type"), none, (.cls ⟨h169, [(.type "object")], [(.ref 52), (.type "object")], 51, h169, true, [], [], false, none, false⟩), #[none, none, some (.str h169 230), some (.str h169 238), some (.builtin "object.__new__"), some (.bool true)]⟩
noncomputable def ho76 (P : Params) : Obj := ⟨(.type "code"), none, (.fields #[(.str h217 302), (.str h227 303), (.str h166 304), (.int 44 0), (.int 2 0), (.int 0 0), (.int 0 0), (.int 3 0), (.ref 71), (.bool true), (.int 181 0), (.ref 72), .none, (.ref 73), (.ref 74), (.ref 75), (.int 307 0), (.int 44 0), (.str h166 308)]), #[]⟩
noncomputable def ho77 (P : Params) : Obj := ⟨(.type "function"), none, (hFn [6, 0] h227 3 [] .none .none .none (.str h228 288) none (.ref 76) .none 0), #[]⟩
noncomputable def ho79 (P : Params) : Obj := let e := ent P; ⟨(.type "dict"), none, (.dict #[e h220 297 (.str h228 288), e h221 301 (.int 42 300), e h217 309 (.ref 77), e h222 311 (.ref 78), e h224 313 (.ref 81), e h2 314 .none] 3), #[]⟩
noncomputable def ho80 (P : Params) : Obj := ⟨(.type "type"), none, (.cls ⟨h171, [(.type "Exception")], [(.ref 80), (.type "Exception"), (.type "BaseException"), (.type "object")], 79, h171, true, [], [(.ref 100)], false, none, false⟩), #[some (.ref 64), none, some (.str h171 290), some (.str h171 298), some (.builtin "Exception.__new__"), some (.bool true)]⟩
noncomputable def ho96 (P : Params) : Obj := ⟨(.type "code"), none, (.fields #[(.str h217 331), (.str h229 332), (.str h166 333), (.int 49 0), (.int 3 0), (.int 0 0), (.int 0 0), (.int 3 0), (.ref 91), (.bool true), (.int 181 0), (.ref 92), .none, (.ref 93), (.ref 94), (.ref 95), (.int 337 0), (.int 49 0), (.str h166 338)]), #[]⟩
noncomputable def ho97 (P : Params) : Obj := ⟨(.type "function"), none, (hFn [7, 0] h229 3 [] .none .none .none (.str h228 288) none (.ref 96) .none 0), #[]⟩
noncomputable def ho99 (P : Params) : Obj := let e := ent P; ⟨(.type "dict"), none, (.dict #[e h220 326 (.str h228 288), e h221 330 (.int 47 329), e h217 339 (.ref 97), e h222 341 (.ref 98), e h2 342 .none] 2), #[]⟩
noncomputable def ho100 (P : Params) : Obj := ⟨(.type "type"), none, (.cls ⟨h172, [(.ref 80)], [(.ref 100), (.ref 80), (.type "Exception"), (.type "BaseException"), (.type "object")], 99, h172, true, [], [], false, none, false⟩), #[some (.ref 84), none, some (.str h172 319), some (.str h172 327), some (.builtin "Exception.__new__"), some (.bool true)]⟩
noncomputable def ho108 (P : Params) : Obj := ⟨(.type "code"), none, (.fields #[(.str h173 347), (.str h173 348), (.str h166 349), (.int 53 0), (.int 2 0), (.int 0 0), (.int 0 0), (.int 3 0), (.ref 103), (.bool true), (.int 181 0), (.ref 104), .none, (.ref 105), (.ref 106), (.ref 107), (.int 352 0), (.int 53 0), (.str h166 353)]), #[]⟩
noncomputable def ho109 (P : Params) : Obj := ⟨(.type "function"), none, (hFn [9] h173 3 [] .none .none .none (.str h230 345) none (.ref 108) .none 0), #[]⟩
noncomputable def ho115 (P : Params) : Obj := ⟨(.type "code"), none, (.fields #[(.str h174 355), (.str h174 356), (.str h166 357), (.int 55 0), (.int 1 0), (.int 0 0), (.int 0 0), (.int 3 0), (.ref 110), (.bool true), (.int 181 0), (.ref 111), .none, (.ref 112), (.ref 113), (.ref 114), (.int 362 0), (.int 55 0), (.str h166 363)]), #[]⟩
noncomputable def ho116 (P : Params) : Obj := ⟨(.type "function"), none, (hFn [10] h174 3 [] .none .none .none (.str h230 345) none (.ref 115) .none 0), #[]⟩
noncomputable def ho122 (P : Params) : Obj := ⟨(.type "code"), none, (.fields #[(.str h177 369), (.str h177 370), (.str h166 371), (.int 70 0), (.int 2 0), (.int 0 0), (.int 0 0), (.int 3 0), (.ref 117), (.bool true), (.int 181 0), (.ref 118), .none, (.ref 119), (.ref 120), (.ref 121), (.int 374 0), (.int 70 0), (.str h166 375)]), #[]⟩
noncomputable def ho123 (P : Params) : Obj := ⟨(.type "function"), none, (hFn [13] h177 3 [] .none .none .none (.str h231 365) none (.ref 122) .none 0), #[]⟩
noncomputable def ho124 (P : Params) : Obj := ⟨(.type "tuple"), none, (.seq #[(.str h232 379), (.str h233 380), (.str h234 381), (.str h235 382)] 0), #[]⟩
noncomputable def ho137 (P : Params) : Obj := ⟨(.type "code"), none, (.fields #[(.str h217 396), (.str h236 397), (.str h166 398), (.int 76 0), (.int 4 0), (.int 0 0), (.int 0 0), (.int 3 0), (.ref 132), (.bool true), (.int 181 0), (.ref 133), .none, (.ref 134), (.ref 135), (.ref 136), (.int 403 0), (.int 76 0), (.str h166 404)]), #[]⟩
noncomputable def ho138 (P : Params) : Obj := ⟨(.type "function"), none, (hFn [16, 0] h236 3 [] .none .none .none (.str h237 377) none (.ref 137) .none 0), #[]⟩
noncomputable def ho140 (P : Params) : Obj := let e := ent P; ⟨(.type "dict"), none, (.dict #[e h220 391 (.str h237 377), e h221 395 (.int 74 394), e h217 405 (.ref 138), e h222 421 (.ref 139), e h223 423 (.ref 142), e h224 425 (.ref 143), e h2 426 .none] 4), #[]⟩
noncomputable def ho141 (P : Params) : Obj := ⟨(.type "type"), none, (.cls ⟨h179, [(.type "object")], [(.ref 141), (.type "object")], 140, h179, true, [], [], false, none, false⟩), #[none, none, some (.str h179 384), some (.str h179 392), some (.builtin "object.__new__"), some (.bool true)]⟩
noncomputable def ho151 (P : Params) : Obj := ⟨(.type "code"), none, (.fields #[(.str h180 429), (.str h180 430), (.str h166 431), (.int 93 0), (.int 3 0), (.int 0 0), (.int 0 0), (.int 3 0), (.ref 146), (.bool true), (.int 181 0), (.ref 147), .none, (.ref 148), (.ref 149), (.ref 150), (.int 436 0), (.int 93 0), (.str h166 437)]), #[]⟩
noncomputable def ho152 (P : Params) : Obj := ⟨(.type "function"), none, (hFn [17] h180 3 [] .none .none .none (.str h237 377) none (.ref 151) .none 0), #[]⟩
noncomputable def ho158 (P : Params) : Obj := ⟨(.type "code"), none, (.fields #[(.str h181 439), (.str h181 440), (.str h166 441), (.int 98 0), (.int 1 0), (.int 0 0), (.int 0 0), (.int 3 0), (.ref 153), (.bool true), (.int 181 0), (.ref 154), .none, (.ref 155), (.ref 156), (.ref 157), (.int 444 0), (.int 98 0), (.str h166 445)]), #[]⟩
noncomputable def ho159 (P : Params) : Obj := ⟨(.type "function"), none, (hFn [18] h181 3 [] .none .none .none (.str h237 377) none (.ref 158) .none 0), #[]⟩
noncomputable def ho165 (P : Params) : Obj := ⟨(.type "code"), none, (.fields #[(.str h182 447), (.str h182 448), (.str h166 449), (.int 103 0), (.int 2 0), (.int 0 0), (.int 0 0), (.int 3 0), (.ref 160), (.bool true), (.int 181 0), (.ref 161), .none, (.ref 162), (.ref 163), (.ref 164), (.int 454 0), (.int 103 0), (.str h166 455)]), #[]⟩
noncomputable def ho166 (P : Params) : Obj := ⟨(.type "function"), none, (hFn [19] h182 3 [] .none .none .none (.str h237 377) none (.ref 165) .none 0), #[]⟩
noncomputable def ho170 (P : Params) : Obj := ⟨(.type "code"), none, (.fields #[(.str h183 457), (.str h183 458), (.str h166 459), (.int 108 0), (.int 2 0), (.int 0 0), (.int 0 0), (.int 3 0), (.ref 167), (.bool true), (.int 181 0), (.ref 168), .none, .none, .none, (.ref 169), (.int 460 0), (.int 108 0), (.str h166 461)]), #[]⟩
noncomputable def ho171 (P : Params) : Obj := ⟨(.type "function"), none, (hFn [20] h183 3 [] .none .none .none (.str h237 377) none (.ref 170) .none 0), #[]⟩
noncomputable def ho177 (P : Params) : Obj := ⟨(.type "code"), none, (.fields #[(.str h184 463), (.str h184 464), (.str h166 465), (.int 118 0), (.int 2 0), (.int 0 0), (.int 0 0), (.int 3 0), (.ref 172), (.bool true), (.int 181 0), (.ref 173), .none, (.ref 174), (.ref 175), (.ref 176), (.int 468 0), (.int 118 0), (.str h166 469)]), #[]⟩
noncomputable def ho178 (P : Params) : Obj := ⟨(.type "function"), none, (hFn [21] h184 3 [] .none .none .none (.str h237 377) none (.ref 177) .none 0), #[]⟩
noncomputable def ho184 (P : Params) : Obj := ⟨(.type "code"), none, (.fields #[(.str h185 471), (.str h185 472), (.str h166 473), (.int 129 0), (.int 1 0), (.int 0 0), (.int 0 0), (.int 3 0), (.ref 179), (.bool true), (.int 181 0), (.ref 180), .none, (.ref 181), (.ref 182), (.ref 183), (.int 475 0), (.int 129 0), (.str h166 476)]), #[]⟩
noncomputable def ho185 (P : Params) : Obj := ⟨(.type "function"), none, (hFn [22] h185 3 [] .none .none .none (.str h237 377) none (.ref 184) .none 0), #[]⟩
noncomputable def ho191 (P : Params) : Obj := ⟨(.type "code"), none, (.fields #[(.str h186 478), (.str h186 479), (.str h166 480), (.int 131 0), (.int 2 0), (.int 0 0), (.int 0 0), (.int 3 0), (.ref 186), (.bool true), (.int 181 0), (.ref 187), .none, (.ref 188), (.ref 189), (.ref 190), (.int 483 0), (.int 131 0), (.str h166 484)]), #[]⟩
noncomputable def ho192 (P : Params) : Obj := ⟨(.type "function"), none, (hFn [23] h186 3 [] .none .none .none (.str h237 377) none (.ref 191) .none 0), #[]⟩
noncomputable def ho198 (P : Params) : Obj := ⟨(.type "code"), none, (.fields #[(.str h187 486), (.str h187 487), (.str h166 488), (.int 134 0), (.int 2 0), (.int 0 0), (.int 0 0), (.int 3 0), (.ref 193), (.bool true), (.int 181 0), (.ref 194), .none, (.ref 195), (.ref 196), (.ref 197), (.int 491 0), (.int 134 0), (.str h166 492)]), #[]⟩
noncomputable def ho199 (P : Params) : Obj := ⟨(.type "function"), none, (hFn [24] h187 3 [] .none .none .none (.str h237 377) none (.ref 198) .none 0), #[]⟩
noncomputable def ho205 (P : Params) : Obj := ⟨(.type "code"), none, (.fields #[(.str h188 494), (.str h188 495), (.str h166 496), (.int 136 0), (.int 2 0), (.int 0 0), (.int 0 0), (.int 3 0), (.ref 200), (.bool true), (.int 181 0), (.ref 201), .none, (.ref 202), (.ref 203), (.ref 204), (.int 500 0), (.int 136 0), (.str h166 501)]), #[]⟩
noncomputable def ho206 (P : Params) : Obj := ⟨(.type "function"), none, (hFn [25] h188 3 [] .none .none .none (.str h237 377) none (.ref 205) .none 0), #[]⟩
noncomputable def ho219 (P : Params) : Obj := ⟨(.type "code"), none, (.fields #[(.str h217 517), (.str h238 518), (.str h166 519), (.int 145 0), (.int 3 0), (.int 0 0), (.int 0 0), (.int 3 0), (.ref 214), (.bool true), (.int 181 0), (.ref 215), .none, (.ref 216), (.ref 217), (.ref 218), (.int 523 0), (.int 145 0), (.str h166 524)]), #[]⟩
noncomputable def ho220 (P : Params) : Obj := ⟨(.type "function"), none, (hFn [27, 0] h238 3 [] .none .none .none (.str h239 503) none (.ref 219) .none 0), #[]⟩
noncomputable def ho222 (P : Params) : Obj := let e := ent P; ⟨(.type "dict"), none, (.dict #[e h220 512 (.str h239 503), e h221 516 (.int 143 515), e h217 525 (.ref 220), e h222 550 (.ref 221), e h223 552 (.ref 224), e h224 554 (.ref 225), e h2 555 .none] 4), #[]⟩
noncomputable def ho223 (P : Params) : Obj := ⟨(.type "type"), none, (.cls ⟨h189, [(.type "object")], [(.ref 223), (.type "object")], 222, h189, true, [], [], false, none, false⟩), #[none, none, some (.str h189 505), some (.str h189 513), some (.builtin "object.__new__"), some (.bool true)]⟩
noncomputable def ho240 (P : Params) : Obj := ⟨(.type "code"), none, (.fields #[(.str h217 570), (.str h240 571), (.str h166 572), (.int 172 0), (.int 3 0), (.int 0 0), (.int 0 0), (.int 3 0), (.ref 235), (.bool true), (.int 181 0), (.ref 236), .none, (.ref 237), (.ref 238), (.ref 239), (.int 576 0), (.int 172 0), (.str h166 577)]), #[]⟩
noncomputable def ho241 (P : Params) : Obj := ⟨(.type "function"), none, (hFn [28, 0] h240 3 [] .none .none .none (.str h239 503) none (.ref 240) .none 0), #[]⟩
noncomputable def ho243 (P : Params) : Obj := let e := ent P; ⟨(.type "dict"), none, (.dict #[e h220 565 (.str h239 503), e h221 569 (.int 170 568), e h217 578 (.ref 241), e h222 581 (.ref 242), e h223 583 (.ref 245), e h224 585 (.ref 246), e h2 586 .none] 4), #[]⟩
noncomputable def ho244 (P : Params) : Obj := ⟨(.type "type"), none, (.cls ⟨h190, [(.type "object")], [(.ref 244), (.type "object")], 243, h190, true, [], [], false, none, false⟩), #[none, none, some (.str h190 558), some (.str h190 566), some (.builtin "object.__new__"), some (.bool true)]⟩
noncomputable def ho254 (P : Params) : Obj := ⟨(.type "code"), none, (.fields #[(.str h191 589), (.str h191 590), (.str h166 591), (.int 175 0), (.int 3 0), (.int 0 0), (.int 0 0), (.int 3 0), (.ref 249), (.bool true), (.int 181 0), (.ref 250), .none, (.ref 251), (.ref 252), (.ref 253), (.int 596 0), (.int 175 0), (.str h166 597)]), #[]⟩
noncomputable def ho255 (P : Params) : Obj := ⟨(.type "function"), none, (hFn [29] h191 3 [] .none .none .none (.str h239 503) none (.ref 254) .none 0), #[]⟩
noncomputable def ho261 (P : Params) : Obj := ⟨(.type "code"), none, (.fields #[(.str h192 599), (.str h192 600), (.str h166 601), (.int 180 0), (.int 4 0), (.int 0 0), (.int 0 0), (.int 3 0), (.ref 256), (.bool true), (.int 181 0), (.ref 257), .none, (.ref 258), (.ref 259), (.ref 260), (.int 607 0), (.int 180 0), (.str h166 608)]), #[]⟩
noncomputable def ho262 (P : Params) : Obj := ⟨(.type "function"), none, (hFn [30] h192 3 [] .none .none .none (.str h239 503) none (.ref 261) .none 0), #[]⟩
noncomputable def ho268 (P : Params) : Obj := ⟨(.type "code"), none, (.fields #[(.str h193 610), (.str h193 611), (.str h166 612), (.int 187 0), (.int 2 0), (.int 0 0), (.int 0 0), (.int 3 0), (.ref 263), (.bool true), (.int 181 0), (.ref 264), .none, (.ref 265), (.ref 266), (.ref 267), (.int 616 0), (.int 187 0), (.str h166 617)]), #[]⟩
noncomputable def ho269 (P : Params) : Obj := ⟨(.type "function"), none, (hFn [31] h193 3 [] .none .none .none (.str h239 503) none (.ref 268) .none 0), #[]⟩
noncomputable def ho275 (P : Params) : Obj := ⟨(.type "code"), none, (.fields #[(.str h194 619), (.str h194 620), (.str h166 621), (.int 207 0), (.int 2 0), (.int 0 0), (.int 0 0), (.int 3 0), (.ref 270), (.bool true), (.int 181 0), (.ref 271), .none, (.ref 272), (.ref 273), (.ref 274), (.int 624 0), (.int 207 0), (.str h166 625)]), #[]⟩
noncomputable def ho276 (P : Params) : Obj := ⟨(.type "function"), none, (hFn [32] h194 3 [] .none .none .none (.str h239 503) none (.ref 275) .none 0), #[]⟩
noncomputable def ho282 (P : Params) : Obj := ⟨(.type "code"), none, (.fields #[(.str h195 627), (.str h195 628), (.str h166 629), (.int 210 0), (.int 1 0), (.int 0 0), (.int 0 0), (.int 3 0), (.ref 277), (.bool true), (.int 181 0), (.ref 278), .none, (.ref 279), (.ref 280), (.ref 281), (.int 631 0), (.int 210 0), (.str h166 632)]), #[]⟩
noncomputable def ho283 (P : Params) : Obj := ⟨(.type "function"), none, (hFn [33] h195 3 [] .none .none .none (.str h239 503) none (.ref 282) .none 0), #[]⟩
noncomputable def ho289 (P : Params) : Obj := ⟨(.type "code"), none, (.fields #[(.str h199 640), (.str h199 641), (.str h166 642), (.int 215 0), (.int 3 0), (.int 0 0), (.int 0 0), (.int 3 0), (.ref 284), (.bool true), (.int 181 0), (.ref 285), .none, (.ref 286), (.ref 287), (.ref 288), (.int 646 0), (.int 215 0), (.str h166 647)]), #[]⟩
noncomputable def ho290 (P : Params) : Obj := ⟨(.type "function"), none, (hFn [37] h199 3 [] .none .none .none (.str h241 634) none (.ref 289) .none 0), #[]⟩
noncomputable def ho294 (P : Params) : Obj := ⟨(.type "code"), none, (.fields #[(.str h200 649), (.str h200 650), (.str h166 651), (.int 219 0), (.int 4 0), (.int 0 0), (.int 0 0), (.int 3 0), (.ref 291), (.bool true), (.int 181 0), (.ref 292), .none, .none, .none, (.ref 293), (.int 652 0), (.int 219 0), (.str h166 653)]), #[]⟩
noncomputable def ho295 (P : Params) : Obj := ⟨(.type "function"), none, (hFn [38] h200 3 [] .none .none .none (.str h241 634) none (.ref 294) .none 0), #[]⟩
noncomputable def ho306 (P : Params) : Obj := ⟨(.type "code"), none, (.fields #[(.str h202 661), (.str h202 662), (.str h166 663), (.int 248 0), (.int 1 0), (.int 0 0), (.int 0 0), (.int 3 0), (.ref 301), (.bool true), (.int 181 0), (.ref 302), .none, (.ref 303), (.ref 304), (.ref 305), (.int 666 0), (.int 248 0), (.str h166 667)]), #[]⟩
noncomputable def ho307 (P : Params) : Obj := ⟨(.type "function"), none, (hFn [40] h202 3 [] .none .none .none (.str h241 634) none (.ref 306) .none 0), #[]⟩
noncomputable def ho313 (P : Params) : Obj := ⟨(.type "code"), none, (.fields #[(.str h203 669), (.str h203 670), (.str h166 671), (.int 253 0), (.int 4 0), (.int 0 0), (.int 0 0), (.int 3 0), (.ref 308), (.bool true), (.int 181 0), (.ref 309), .none, (.ref 310), (.ref 311), (.ref 312), (.int 679 0), (.int 253 0), (.str h166 680)]), #[]⟩
noncomputable def ho314 (P : Params) : Obj := ⟨(.type "function"), none, (hFn [41] h203 3 [] .none .none .none (.str h241 634) none (.ref 313) .none 0), #[]⟩
noncomputable def ho327 (P : Params) : Obj := ⟨(.type "code"), none, (.fields #[(.str h217 696), (.str h242 697), (.str h166 698), (.int 272 0), (.int 5 0), (.int 0 0), (.int 0 0), (.int 3 0), (.ref 322), (.bool true), (.int 181 0), (.ref 323), .none, (.ref 324), (.ref 325), (.ref 326), (.int 704 0), (.int 272 0), (.str h166 705)]), #[]⟩
noncomputable def ho328 (P : Params) : Obj := ⟨(.type "function"), none, (hFn [43, 0] h242 3 [] .none .none .none (.str h243 682) none (.ref 327) .none 0), #[]⟩
noncomputable def ho330 (P : Params) : Obj := let e := ent P; ⟨(.type "dict"), none, (.dict #[e h220 691 (.str h243 682), e h221 695 (.int 270 694), e h217 706 (.ref 328), e h222 720 (.ref 329), e h223 722 (.ref 332), e h224 724 (.ref 333), e h2 725 .none] 4), #[]⟩
noncomputable def ho331 (P : Params) : Obj := ⟨(.type "type"), none, (.cls ⟨h204, [(.type "object")], [(.ref 331), (.type "object")], 330, h204, true, [], [], false, none, false⟩), #[none, none, some (.str h204 684), some (.str h204 692), some (.builtin "object.__new__"), some (.bool true)]⟩
noncomputable def ho343 (P : Params) : Obj := ⟨(.type "tuple"), none, (.seq #[(.int 32 742), (.int 1000000 745), (.int 50 746), (.int 10000 749), (.int 100000 752), (.int 50 753), (.int 1000000 756)] 0), #[]⟩
noncomputable def ho349 (P : Params) : Obj := ⟨(.type "code"), none, (.fields #[(.str h217 757), (.str h244 758), (.str h166 759), (.int 289 0), (.int 8 0), (.int 0 0), (.int 0 0), (.int 3 0), (.ref 344), (.bool true), (.int 181 0), (.ref 345), .none, (.ref 346), (.ref 347), (.ref 348), (.int 768 0), (.int 289 0), (.str h166 769)]), #[]⟩
noncomputable def ho350 (P : Params) : Obj := ⟨(.type "function"), none, (hFn [45, 0] h244 3 [] (.ref 343) .none .none (.str h245 728) none (.ref 349) .none 0), #[]⟩
noncomputable def ho352 (P : Params) : Obj := let e := ent P; ⟨(.type "dict"), none, (.dict #[e h220 737 (.str h245 728), e h221 741 (.int 287 740), e h217 770 (.ref 350), e h222 778 (.ref 351), e h223 780 (.ref 354), e h224 782 (.ref 355), e h2 783 .none] 4), #[]⟩
noncomputable def ho353 (P : Params) : Obj := ⟨(.type "type"), none, (.cls ⟨h205, [(.type "object")], [(.ref 353), (.type "object")], 352, h205, true, [], [], false, none, false⟩), #[none, none, some (.str h205 730), some (.str h205 738), some (.builtin "object.__new__"), some (.bool true)]⟩
noncomputable def ho375 (P : Params) : Obj := ⟨(.type "code"), none, (.fields #[(.str h209 808), (.str h209 809), (.str h166 810), (.int 313 0), (.int 1 0), (.int 0 0), (.int 0 0), (.int 3 0), (.ref 372), (.bool true), (.int 181 0), (.ref 373), .none, .none, .none, (.ref 374), (.int 811 0), (.int 313 0), (.str h166 812)]), #[]⟩
noncomputable def ho376 (P : Params) : Obj := ⟨(.type "function"), none, (hFn [51] h209 3 [] .none .none .none (.str h246 806) none (.ref 375) .none 0), #[]⟩
noncomputable def ho380 (P : Params) : Obj := ⟨(.type "code"), none, (.fields #[(.str h210 816), (.str h210 817), (.str h166 818), (.int 325 0), (.int 3 0), (.int 0 0), (.int 0 0), (.int 3 0), (.ref 377), (.bool true), (.int 181 0), (.ref 378), .none, .none, .none, (.ref 379), (.int 819 0), (.int 325 0), (.str h166 820)]), #[]⟩
noncomputable def ho381 (P : Params) : Obj := ⟨(.type "function"), none, (hFn [53] h210 3 [] .none .none .none (.str h247 814) none (.ref 380) .none 0), #[]⟩
noncomputable def ho394 (P : Params) : Obj := ⟨(.type "code"), none, (.fields #[(.str h212 833), (.str h212 834), (.str h166 835), (.int 346 0), (.int 5 0), (.int 0 0), (.int 0 0), (.int 3 0), (.ref 389), (.bool true), (.int 181 0), (.ref 390), .none, (.ref 391), (.ref 392), (.ref 393), (.int 842 0), (.int 346 0), (.str h166 843)]), #[]⟩
noncomputable def ho395 (P : Params) : Obj := ⟨(.type "function"), none, (hFn [55] h212 3 [] .none .none .none (.str h247 814) none (.ref 394) .none 0), #[]⟩
noncomputable def ho396 (P : Params) : Obj := ⟨(.type "tuple"), none, (.seq #[(.int 1 847), (.int 0 848), (.int 0 849), (.int 1 850), (.int 1 851), (.int 0 852)] 0), #[]⟩
noncomputable def ho402 (P : Params) : Obj := ⟨(.type "code"), none, (.fields #[(.str h214 854), (.str h214 855), (.str h166 856), (.int 360 0), (.int 2 0), (.int 0 0), (.int 0 0), (.int 3 0), (.ref 397), (.bool true), (.int 181 0), (.ref 398), .none, (.ref 399), (.ref 400), (.ref 401), (.int 860 0), (.int 360 0), (.str h166 861)]), #[]⟩
noncomputable def ho403 (P : Params) : Obj := ⟨(.type "function"), none, (hFn [58] h214 3 [] .none .none .none (.str h162 845) none (.ref 402) .none 0), #[]⟩
noncomputable def ho409 (P : Params) : Obj := ⟨(.type "code"), none, (.fields #[(.str h215 863), (.str h215 864), (.str h166 865), (.int 366 0), (.int 5 0), (.int 0 0), (.int 0 0), (.int 3 0), (.ref 404), (.bool true), (.int 181 0), (.ref 405), .none, (.ref 406), (.ref 407), (.ref 408), (.int 873 0), (.int 366 0), (.str h166 874)]), #[]⟩
noncomputable def ho410 (P : Params) : Obj := ⟨(.type "function"), none, (hFn [59] h215 3 [] .none .none .none (.str h162 845) none (.ref 409) .none 0), #[]⟩
noncomputable def ho414 (P : Params) : Obj := ⟨(.type "code"), none, (.fields #[(.str h216 876), (.str h216 877), (.str h166 878), (.int 374 0), (.int 1 0), (.int 0 0), (.int 0 0), (.int 3 0), (.ref 411), (.bool true), (.int 181 0), (.ref 412), .none, .none, .none, (.ref 413), (.int 879 0), (.int 374 0), (.str h166 880)]), #[]⟩
noncomputable def ho415 (P : Params) : Obj := ⟨(.type "function"), none, (hFn [60] h216 3 [] .none .none .none (.str h162 845) none (.ref 414) .none 0), #[]⟩
noncomputable def hAs : List Nat := [0, 2, 3, 27, 28, 30, 31, 48, 49, 51, 52, 76, 77, 79, 80, 96, 97, 99, 100, 108, 109, 115, 116, 122, 123, 124, 137, 138, 140, 141, 151, 152, 158, 159, 165, 166, 170, 171, 177, 178, 184, 185, 191, 192, 198, 199, 205, 206, 219, 220, 222, 223, 240, 241, 243, 244, 254, 255, 261, 262, 268, 269, 275, 276, 282, 283, 289, 290, 294, 295, 306, 307, 313, 314, 327, 328, 330, 331, 343, 349, 350, 352, 353, 375, 376, 380, 381, 394, 395, 396, 402, 403, 409, 410, 414, 415]
noncomputable def hL (P : Params) : Frag := [(0, ho0 P), (2, ho2 P), (3, ho3 P), (27, ho27 P), (28, ho28 P), (30, ho30 P), (31, ho31 P), (48, ho48 P), (49, ho49 P), (51, ho51 P), (52, ho52 P), (76, ho76 P), (77, ho77 P), (79, ho79 P), (80, ho80 P), (96, ho96 P), (97, ho97 P), (99, ho99 P), (100, ho100 P), (108, ho108 P), (109, ho109 P), (115, ho115 P), (116, ho116 P), (122, ho122 P), (123, ho123 P), (124, ho124 P), (137, ho137 P), (138, ho138 P), (140, ho140 P), (141, ho141 P), (151, ho151 P), (152, ho152 P), (158, ho158 P), (159, ho159 P), (165, ho165 P), (166, ho166 P), (170, ho170 P), (171, ho171 P), (177, ho177 P), (178, ho178 P), (184, ho184 P), (185, ho185 P), (191, ho191 P), (192, ho192 P), (198, ho198 P), (199, ho199 P), (205, ho205 P), (206, ho206 P), (219, ho219 P), (220, ho220 P), (222, ho222 P), (223, ho223 P), (240, ho240 P), (241, ho241 P), (243, ho243 P), (244, ho244 P), (254, ho254 P), (255, ho255 P), (261, ho261 P), (262, ho262 P), (268, ho268 P), (269, ho269 P), (275, ho275 P), (276, ho276 P), (282, ho282 P), (283, ho283 P), (289, ho289 P), (290, ho290 P), (294, ho294 P), (295, ho295 P), (306, ho306 P), (307, ho307 P), (313, ho313 P), (314, ho314 P), (327, ho327 P), (328, ho328 P), (330, ho330 P), (331, ho331 P), (343, ho343 P), (349, ho349 P), (350, ho350 P), (352, ho352 P), (353, ho353 P), (375, ho375 P), (376, ho376 P), (380, ho380 P), (381, ho381 P), (394, ho394 P), (395, ho395 P), (396, ho396 P), (402, ho402 P), (403, ho403 P), (409, ho409 P), (410, ho410 P), (414, ho414 P), (415, ho415 P)]
noncomputable def hKT (P : Params) : KT := KT.of (hL P)
end Mine
end
section
set_option maxRecDepth 100000
namespace Mine
open PySem PySem.W PySem.W.X PyProof.Rows
noncomputable def hq : Program := view PySem.Challenge.pw_rg0017_01 [60]
noncomputable def hLoose : List Str := (PySem.Challenge.pw_rg0017_01.main.scope.names.map Prod.fst).filter fun x => !(Fast.sEq x (.mk #[108, 97, 119]))
set_option maxHeartbeats 0
theorem z1 (w : World) : ((boot_heap w.params).isNs mainGlobals && (Array.mk [] : Array GenState).size == 0) = true := by kernel_rfl
theorem z2 (w : World) : (boot_heap w.params).objs.size = 11 := by kernel_rfl
theorem z3 (w : World) : (boot_heap w.params).nsMap mainGlobals "__annotations__" = some (.ref 6) := by
  rw [Fast.te8920871248978507458]
  kernel_rfl
noncomputable abbrev hXt (s : Shared) : Bool := xlAt hq [] s && recOk [] s
/-- the run of the top -/
noncomputable def hTop (w : World) (os : OsState) : Option Shared := topRun treeTable PySem.Challenge.pw_rg0017_01 w 11 (some (.ref 6)) 3400 ⟨boot_heap w.params, Array.mk [], boot_drawn, boot_toks, os⟩ (topStub PySem.Challenge.pw_rg0017_01)
theorem h_run1 (w : World) (os : OsState) : (hTop w os).map (obsZ hAs) = some (valZ hL 416 882 w) := by
  unfold hTop
  rw [Fast.te14082659384304107361, Fast.te14364793385576792824]
  kernel_rfl
theorem h_run2 (w : World) (os : OsState) : (hTop w os).map (openSeen hq hLoose (importedModules PySem.Challenge.pw_rg0017_01.main.body) hXt true) = some (openGood hq hLoose) := by
  unfold hTop
  rw [Fast.te14082659384304107361, Fast.te14364793385576792824, Fast.te4187177175401517315]
  kernel_rfl
noncomputable def hOk (h : Heap) (s₁ : Shared) : Bool := staticsOk (importedModules PySem.Challenge.pw_rg0017_01.main.body) h s₁.heap && namesBound PySem.Challenge.pw_rg0017_01 s₁.heap && gensDone s₁ && laidKept h s₁.heap
theorem h_run3 (w : World) (os : OsState) : (hTop w os).map (hOk (boot_heap w.params)) = some true := by
  unfold hTop
  rw [Fast.te14082659384304107361, Fast.te14364793385576792824]
  kernel_rfl
theorem map_two {α β γ : Type} {x : Option α} {f : α → β} {g : α → γ} {b : β} {c : γ} (h1 : x.map f = some b) (h2 : x.map g = some c) : x.map (fun s => (f s, g s)) = some (b, c) := by
  cases x with
  | none => cases h1
  | some v => injection h1 with h1; injection h2 with h2; rw [← h1, ← h2]; rfl
theorem top_from {p : Program} {w : World} {N m : Nat} {ann : Option Value} {s₀ : Shared} {X : Option Shared} {β : Type} {F : Shared → β} {b : β} (ok : Heap → Shared → Bool)
    (e0 : (s₀.heap.isNs mainGlobals && s₀.gens.size == 0) = true) (e1 : s₀.heap.objs.size = m) (e2 : s₀.heap.nsMap mainGlobals "__annotations__" = ann)
    (eX : topRun treeTable p w m ann N s₀ (topStub p) = X)
    (eok : ∀ s₁, (staticsOk (importedModules p.main.body) s₀.heap s₁.heap && namesBound p s₁.heap && gensDone s₁ && laidKept s₀.heap s₁.heap) = ok s₀.heap s₁)
    (h3 : X.map (ok s₀.heap) = some true) (h : X.map F = some b) : (topFrom treeTable p w N s₀).map F = some b := by
  unfold topFrom
  rw [e0, e1, e2, eX]
  cases X with
  | none => cases h
  | some v =>
    injection h3 with h3
    show (Option.bind (some v) _).map F = _
    rw [Option.bind_some, eok, h3]
    exact h
theorem open_from {p : Program} {w : World} {N : Nat} {s₀ : Shared} {β : Type} {F : Shared → β} {r : Option β} (e : fencedOpening treeTable p w N = some s₀) (h : (topFrom treeTable p w N s₀).map F = r) : (openEnds treeTable p w N).map F = r := by
  unfold openEnds
  rw [e]
  exact h
theorem h_boot (w : World) : (fencedOpening treeTable PySem.Challenge.pw_rg0017_01 w 3400).map (fun s => (s.heap, s.gens, s.drawn, s.toks)) = some (boot_heap w.params, Array.mk [], boot_drawn, boot_toks) :=
  boot_open (p := PySem.Challenge.pw_rg0017_01) (N := 3400) (by kernel_rfl) (by kernel_rfl) (fun s => by kernel_rfl) w
theorem h_left : LeftO PySem.Challenge.pw_rg0017_01 hq hLoose hXt (obsZ hAs) (valZ hL 416 882) 3400 := fun w => by
  obtain ⟨⟨h, gs, d, k, os⟩, e, e'⟩ := Option.map_eq_some_iff.mp (h_boot w)
  obtain ⟨rfl, rfl, rfl, rfl⟩ : h = boot_heap w.params ∧ gs = Array.mk [] ∧ d = boot_drawn ∧ k = boot_toks := by simpa using e'
  exact open_from e (top_from (X := hTop w os) hOk (z1 w) (z2 w) (z3 w) rfl (fun _ => rfl) (h_run3 w os) (map_two (h_run2 w os) (h_run1 w os)))
end Mine
end
section
set_option maxRecDepth 100000
namespace Mine
open PySem PySem.W PySem.W.X PyProof.Rows PySem.W.ZRun
theorem h_keys : ∀ P, hAs = (hL P).map (·.1) := fun P => by kernel_rfl
noncomputable def hD : DefRec := match hStmt [60] PySem.Challenge.pw_rg0017_01.main.body with
  | some (.FunctionDef n as b _ _ _ sc _ _ pos) => ⟨n, as, b, sc, pos⟩
  | _ => ⟨.mk #[], ⟨[], [], none, [], [], none, []⟩, [], ⟨.function, [], false, false, []⟩, ⟨0, 0, 0, 0⟩⟩
set_option maxHeartbeats 0
theorem y1 : defOf hq PySem.Challenge.rw_rg0017_01.row.name = some (hD, []) := by kernel_rfl
theorem y2 : PySem.Challenge.rw_rg0017_01.row.prog.theDef PySem.Challenge.rw_rg0017_01.row.name = some (hD.params, hD.body, hD.scope) := by kernel_rfl
theorem y3 : kwWritten? hD.params.kwonlyargs hD.params.kw_defaults = some [] := by kernel_rfl
theorem y4 : (!PySem.Challenge.rw_rg0017_01.row.writes || PySem.Challenge.rw_rg0017_01.row.toRowW.records.isEmpty) = true := by kernel_rfl
theorem y6 : chainsOk hq = true := by kernel_rfl
theorem y7 : opensWell PySem.Challenge.rw_rg0017_01.row.prog = true := by kernel_rfl
theorem y8 : (frees PySem.Challenge.rw_rg0017_01.row.toRowW && PySem.Challenge.rw_rg0017_01.row.within.isEmpty) = true := by kernel_rfl
theorem y9 : PySem.Challenge.rw_rg0017_01.row.prog.bare := ⟨by kernel_rfl, by kernel_rfl, by kernel_rfl, by kernel_rfl, by kernel_rfl, by decide +kernel⟩
end Mine
end
section
set_option maxRecDepth 100000
namespace Mine
open PySem PySem.W PySem.W.X PyProof.Rows
set_option maxHeartbeats 0
theorem h_said : OpenLaw.wellSaid PySem.Challenge.rw_rg0017_01 = true := by kernel_rfl
end Mine
end
section
set_option maxRecDepth 100000
namespace Mine
open PySem PySem.W PySem.W.X PyProof.Rows PySem.W.ZRun
theorem h_law (w : World) : nsIn (hL w.params) mainGlobals hD.name = some (some (.ref 415)) := by kernel_rfl
theorem h_facts {K : Params → Frag} {as : List Nat} (e : ∀ P, as = (K P).map (·.1)) {n t : Nat} {w : World} {s₀ s₁ : Shared} (y : obsZ as s₀ = valZ K n t w) (k : ∀ b o, s₀.heap.get? b = some o → s₁.heap.get? b = some o) : (K w.params).In s₁.heap ∧ HeapIs s₁.heap (KT.of (K w.params)) ∧ s₀.heap.objs.size = n := by
  have f := z_facts e y
  exact ⟨InK.keeps w s₀.heap s₁.heap f.2.1 k, heapIs_of (KT.Holds.keeps k (holds_of f.1)), f.2.2.1⟩
set_option maxHeartbeats 0 in
theorem head_of (H : WalkGoal hKT) : PySem.Challenge.rw_rg0017_01.Holds := by
  w_on
  refine holds_law h_said fun said => ?_
  refine holds_openX (q := hq) (loose := hLoose) (Xt := hXt) (XP := XL hq []) (Yf := obsZ hAs) (Ya := valZ hL 416 882) (N := 3400) (d := hD) (kwd := []) h_left (fun s e => xl_of s (Bool.and_eq_true_iff.mp e).1) XL.keeps y1 y2 y3 (fun s e => recFacts_of (Bool.and_eq_true_iff.mp e).2) y4 (by assumption) (Bool.and_eq_true_iff.mpr ⟨Bool.and_eq_true_iff.mpr ⟨y6, y7⟩, y8⟩) y9 ?hw ?hc
  case hw => w_witness2
  intro w s₀ s₁ mg mb G y fa o pm cd doc dV kV ho hd hcd hD hmg hg args vals as L hpre hlay hrd hwl hlo
  have hf := h_facts h_keys y (Laid.keeps L)
  have KX := hf.1
  have ZH : HeapIs s₁.heap (hKT w.params) := hf.2.1
  have ZN := hf.2.2
  clear hf y
  refine Ground.open G ?_
  intro T B D TE TW
  wrow_args hpre hlay hrd hwl hlo
  obtain ⟨hat, hsz⟩ := script_at L
  rw [ZN] at hat hsz
  subst hat
  have e1 := mg_of KX T.g (h_law w)
  have e2 : Value.ref fa = .ref 415 := Option.some.inj (hmg.symm.trans e1)
  injection e2 with e2
  subst e2
  all_lens
  rename_i hL _ _ hI _
  have hobj := script_obj L hL
  rename ¬ ((63 : Nat) : Int) < _ => hlen
  have hlen' := Int.ofNat_le.mp (Int.not_lt.mp hlen)
  show wpAny (model PySem.Challenge.pw_rg0017_01 w) callerA (call (.ref 415) [.ref 416]) _ _ s₁
  refine call_good _ (H w s₁ _ _ ZH hsz T.nolimit hg hobj hI hlen') ?_
  rintro r s' ⟨rfl, keep, gens, os⟩
  refine ⟨_, rfl, .inl ⟨_, _, [], rfl, fun _ => rfl, ReadsW.bool true, (by first | kernel_rfl! | wrow_post), fun _ => ⟨List.nodup_nil, fun _ hm => (nomatch hm)⟩⟩, ⟨fun b o e => .inl (keep b o e), fun b o e => ⟨o, keep b o e⟩⟩, os, ?_⟩
  rw [gens]; exact AllBare.empty
end Mine
end
section
set_option maxRecDepth 100000
set_option maxHeartbeats 0
namespace Mine
open PySem PySem.W PySem.W.X
noncomputable def tkOf (o : Option Obj) (j : Nat) : Tok := match o with
  | some ⟨_, _, .seq xs _, _⟩ => match xs.toList.getD j .none with
    | .str _ t => t
    | _ => 0
  | _ => 0
noncomputable def lenOf (o : Option Obj) : Nat := match o with
  | some ⟨_, _, .seq _ n, _⟩ => n
  | _ => 0
theorem tops_of {kt : Params → KT} (h : ∀ P, (kt P).get 124 = some ⟨.type "tuple", none, .seq #[.str (.mk #[114, 111, 111, 116]) (tkOf ((kt P).get 124) 0), .str (.mk #[115, 117, 98]) (tkOf ((kt P).get 124) 1), .str (.mk #[116, 97, 115, 107]) (tkOf ((kt P).get 124) 2), .str (.mk #[112, 114, 111, 116, 101, 99, 116, 101, 100]) (tkOf ((kt P).get 124) 3)] (lenOf ((kt P).get 124)), #[]⟩) : Tops kt :=
  ⟨fun P => ⟨_, _, h P, .cons _ _ (.cons _ _ (.cons _ _ (.cons _ _ .nil)))⟩⟩
theorem fn_of {T : KT} (h1 : (lawFd T).scope.kind = .function) (h2 : (fnFd T 314).scope.kind = .function) (h3 : (fnFd T 307).scope.kind = .function) (h4 : (fnFd T 109).scope.kind = .function) : FnOk T :=
  ⟨fun e => (by rw [h1] at e; cases e), fun e => (by rw [h2] at e; cases e), fun e => (by rw [h3] at e; cases e), fun e => (by rw [h4] at e; cases e)⟩
theorem zkLt (vals : List Value) : kLt.Run (ktS hKT vals) := by
  intro P b c σ τ x Z U
  cases b <;> kernel_rfl
theorem zkGt (vals : List Value) : kGt.Run (ktS hKT vals) := by
  intro P b c σ τ x Z U
  cases b <;> kernel_rfl
theorem zkNe (vals : List Value) : kNe.Run (ktS hKT vals) := by
  intro P b c σ τ x Z U
  cases b <;> kernel_rfl
theorem zkEq (vals : List Value) : kEq.Run (ktS hKT vals) := by
  intro P b c σ τ x Z U
  cases b <;> kernel_rfl
theorem zkIeq (vals : List Value) : kIeq.Run (ktS hKT vals) := by
  intro P b c σ τ x Z U
  cases b <;> kernel_rfl
theorem zkIne (vals : List Value) : kIne.Run (ktS hKT vals) := by
  intro P b c σ τ x Z U
  cases b <;> kernel_rfl
theorem zkSub (vals : List Value) : kSub.Run (ktS hKT vals) := by
  intro P b c σ τ x Z U
  cases b <;> kernel_rfl
theorem zkEnt (vals : List Value) : kEnt.Run (ktS hKT vals) := by
  intro P b c σ τ x Z U
  cases b <;> kernel_rfl
theorem zkSettle (vals : List Value) : kSettle.Run (ktS hKT vals) := by
  intro P b c σ τ x Z U
  cases b <;> cases c <;> kernel_rfl
theorem zkWhole (vals : List Value) : kWhole.Run (ktS hKT vals) := by
  intro P b c σ τ x Z U
  cases b <;> kernel_rfl
theorem zkDeclP (vals : List Value) : kDeclP.Run (ktS hKT vals) := by
  intro P b c σ τ x Z U
  cases b <;> kernel_rfl
theorem zkDeclQ (vals : List Value) : kDeclQ.Run (ktS hKT vals) := by
  intro P b c σ τ x Z U
  cases b <;> kernel_rfl
theorem zkLd (vals : List Value) : kLd.Run (ktS hKT vals) := by
  intro P b c σ τ x Z U
  cases b <;> kernel_rfl
theorem zkLa (vals : List Value) : kLa.Run (ktS hKT vals) := by
  intro P b c σ τ x Z U
  cases b <;> kernel_rfl
theorem zkLdn (vals : List Value) : kLdn.Run (ktS hKT vals) := by
  intro P b c σ τ x Z U
  cases b <;> kernel_rfl
theorem zkLan (vals : List Value) : kLan.Run (ktS hKT vals) := by
  intro P b c σ τ x Z U
  cases b <;> kernel_rfl
theorem zkCnt (vals : List Value) : kCnt.Run (ktS hKT vals) := by
  intro P b c σ τ x Z U
  cases b <;> kernel_rfl
theorem zkChgS (vals : List Value) : kChgS.Run (ktS hKT vals) := by
  intro P b c σ τ x Z U
  cases b <;> kernel_rfl
theorem zkChgT (vals : List Value) : kChgT.Run (ktS hKT vals) := by
  intro P b c σ τ x Z U
  cases b <;> kernel_rfl
theorem zkChgU (vals : List Value) : kChgU.Run (ktS hKT vals) := by
  intro P b c σ τ x Z U
  cases b <;> kernel_rfl
theorem zTop (vals : List Value) : ∀ P, ((ktS hKT vals) P).get 124 = some ⟨.type "tuple", none, .seq #[.str (.mk #[114, 111, 111, 116]) (tkOf (((ktS hKT vals) P).get 124) 0), .str (.mk #[115, 117, 98]) (tkOf (((ktS hKT vals) P).get 124) 1), .str (.mk #[116, 97, 115, 107]) (tkOf (((ktS hKT vals) P).get 124) 2), .str (.mk #[112, 114, 111, 116, 101, 99, 116, 101, 100]) (tkOf (((ktS hKT vals) P).get 124) 3)] (lenOf (((ktS hKT vals) P).get 124)), #[]⟩ := by
  intro P
  kernel_rfl
theorem zSp (vals : List Value) : SpRuns (ktS hKT vals) := by
  intro b n hn
  obtain rfl | rfl | rfl | rfl : n = 0 ∨ n = 1 ∨ n = 2 ∨ n = 3 := by omega
  all_goals (cases b <;> (intro P b c σ τ x Z U; kernel_rfl))
theorem zSv (vals : List Value) : SvRuns (ktS hKT vals) := by
  refine { lt := ?v0, v2 := ?v2, v3 := ?v3, v4 := ?v4, n0x2 := ?w0x2, n1x4 := ?w1x4, n2x2 := ?w2x2, n3x2 := ?w3x2, n4x3 := ?w4x3, n5x2 := ?w5x2, n6x2 := ?w6x2, n7x3 := ?w7x3, n8x2 := ?w8x2, n9x2 := ?w9x2, n10x3 := ?w10x3, n11x2 := ?w11x2, n12x2 := ?w12x2, n13x3 := ?w13x3, n14x3 := ?w14x3, n5x3 := ?w5x3, n8x3 := ?w8x3, n11x3 := ?w11x3 }
  all_goals (intro P b c σ τ x Z U; cases b <;> kernel_rfl)
theorem zRng (vals : List Value) : ∀ t r, t ≤ 3 → r ≤ 3 → (kRng t r).Run (ktS hKT vals) := by
  intro t r ht hr
  obtain rfl | rfl | rfl | rfl : t = 0 ∨ t = 1 ∨ t = 2 ∨ t = 3 := by omega
  all_goals (obtain rfl | rfl | rfl | rfl : r = 0 ∨ r = 1 ∨ r = 2 ∨ r = 3 := by omega)
  all_goals (intro P b c σ τ x Z U; kernel_rfl)
theorem zIx (vals : List Value) : ∀ t, t ≤ 3 → (kIx t).Run (ktS hKT vals) := by
  intro t ht
  obtain rfl | rfl | rfl | rfl : t = 0 ∨ t = 1 ∨ t = 2 ∨ t = 3 := by omega
  all_goals (intro P b c σ τ x Z U; kernel_rfl)
theorem zIt (vals : List Value) : ItRuns (ktS hKT vals) := by
  intro k r hr hk
  obtain rfl | rfl | rfl | rfl : k = 1 ∨ k = 2 ∨ k = 3 ∨ k = 4 := by omega
  · obtain rfl : r = 0 := by omega
    all_goals (intro P b c σ τ x Z U; kernel_rfl)
  · obtain rfl | rfl : r = 0 ∨ r = 1 := by omega
    all_goals (intro P b c σ τ x Z U; kernel_rfl)
  · obtain rfl | rfl | rfl : r = 0 ∨ r = 1 ∨ r = 2 := by omega
    all_goals (intro P b c σ τ x Z U; kernel_rfl)
  · obtain rfl | rfl | rfl | rfl : r = 0 ∨ r = 1 ∨ r = 2 ∨ r = 3 := by omega
    all_goals (intro P b c σ τ x Z U; kernel_rfl)
theorem zA00 (vals : List Value) : kA00.Run (ktS hKT vals) := by
  intro P b c σ τ x Z U; kernel_rfl
theorem zA01x0 (vals : List Value) : ∀ m, 0 ≤ m → m ≤ 6 → (kA01 m).Run (ktS hKT vals) := by
  intro m hm1 hm2
  obtain rfl | rfl | rfl | rfl | rfl | rfl | rfl : m = 0 ∨ m = 1 ∨ m = 2 ∨ m = 3 ∨ m = 4 ∨ m = 5 ∨ m = 6 := by omega
  all_goals (intro P b c σ τ x Z U; cases b <;> cases c <;> kernel_rfl)
theorem zA01x7 (vals : List Value) : ∀ m, 7 ≤ m → m ≤ 13 → (kA01 m).Run (ktS hKT vals) := by
  intro m hm1 hm2
  obtain rfl | rfl | rfl | rfl | rfl | rfl | rfl : m = 7 ∨ m = 8 ∨ m = 9 ∨ m = 10 ∨ m = 11 ∨ m = 12 ∨ m = 13 := by omega
  all_goals (intro P b c σ τ x Z U; cases b <;> cases c <;> kernel_rfl)
theorem zA01x14 (vals : List Value) : ∀ m, 14 ≤ m → m ≤ 20 → (kA01 m).Run (ktS hKT vals) := by
  intro m hm1 hm2
  obtain rfl | rfl | rfl | rfl | rfl | rfl | rfl : m = 14 ∨ m = 15 ∨ m = 16 ∨ m = 17 ∨ m = 18 ∨ m = 19 ∨ m = 20 := by omega
  all_goals (intro P b c σ τ x Z U; cases b <;> cases c <;> kernel_rfl)
theorem zA (vals : List Value) : ∀ tg, (kA tg).Run (ktS hKT vals) := by
  intro tg; cases tg <;> (intro P b c σ τ x Z U; cases b <;> kernel_rfl)
theorem zB (vals : List Value) : ∀ v, v ≤ 3 → (kB v).Run (ktS hKT vals) := by
  intro v hv
  obtain rfl | rfl | rfl | rfl : v = 0 ∨ v = 1 ∨ v = 2 ∨ v = 3 := by omega
  all_goals (intro P b c σ τ x Z U; cases b <;> kernel_rfl)
theorem zR1tt (vals : List Value) : ∀ a b way k l X, way = 0 ∨ way = 1 ∨ way = 2 → (k1 true true a b way k l false X).Run (ktS hKT vals) := by
  intro a b way k l X hw
  obtain rfl | rfl | rfl := hw
  all_goals (cases a <;> cases b <;> (intro P b c σ τ x Z U; cases b <;> kernel_rfl))
theorem zR1tf (vals : List Value) : ∀ a b way k l X, way = 0 ∨ way = 1 ∨ way = 2 → (k1 true false a b way k l false X).Run (ktS hKT vals) := by
  intro a b way k l X hw
  obtain rfl | rfl | rfl := hw
  all_goals (cases a <;> cases b <;> (intro P b c σ τ x Z U; cases b <;> kernel_rfl))
theorem zR1ft (vals : List Value) : ∀ a b way k l X, way = 0 ∨ way = 1 ∨ way = 2 → (k1 false true a b way k l false X).Run (ktS hKT vals) := by
  intro a b way k l X hw
  obtain rfl | rfl | rfl := hw
  all_goals (cases a <;> cases b <;> (intro P b c σ τ x Z U; cases b <;> kernel_rfl))
theorem zR1ff (vals : List Value) : ∀ a b way k l X, way = 0 ∨ way = 1 ∨ way = 2 → (k1 false false a b way k l false X).Run (ktS hKT vals) := by
  intro a b way k l X hw
  obtain rfl | rfl | rfl := hw
  all_goals (cases a <;> cases b <;> (intro P b c σ τ x Z U; cases b <;> kernel_rfl))
theorem zR1o (vals : List Value) : ∀ a b k l X, (k1 true true a b 1 k l true X).Run (ktS hKT vals) := by
  intro a b k l X
  cases a <;> cases b <;> (intro P b c σ τ x Z U; cases b <;> kernel_rfl)
theorem zE1 (vals : List Value) : ∀ k f, (kE1 k f).Run (ktS hKT vals) := by
  intro k f; intro P b c σ τ x Z U; cases b <;> kernel_rfl
theorem zM (vals : List Value) : ∀ tg X Y, (kM tg X Y).Run (ktS hKT vals) := by
  intro tg X Y; cases tg <;> (intro P b c σ τ x Z U; cases b <;> cases c <;> kernel_rfl)
theorem zT2 (vals : List Value) : ∀ X, (kT2 X).Run (ktS hKT vals) := by
  intro X; intro P b c σ τ x Z U; cases b <;> kernel_rfl
theorem zR2 (vals : List Value) : R2 (ktS hKT vals) := by
  intro d told r m W q Y X hr h1 h2
  obtain ⟨has, gives, way, k, t, i⟩ := r
  cases d with
  | tag =>
    cases gives with
    | true =>
      obtain rfl : way = 0 := h1 rfl rfl
      cases told <;> cases has <;> (intro P b c σ τ x Z U; cases b <;> kernel_rfl)
    | false =>
      cases has with
      | true => cases told <;> (intro P b c σ τ x Z U; cases b <;> kernel_rfl)
      | false => exact absurd hr (show ¬(false = true ∨ false = true) by decide)
  | plain =>
    cases has <;> cases gives <;> first | (exact absurd hr (show ¬(false = true ∨ false = true) by decide)) | (cases told <;> (intro P b c σ τ x Z U; cases b <;> kernel_rfl))
  | out =>
    obtain rfl : gives = true := h2 rfl
    cases told <;> (intro P b c σ τ x Z U; cases b <;> kernel_rfl)
theorem zE2 (vals : List Value) : ∀ m f, 1 ≤ m → m ≤ 4 → (kE2 m f).Run (ktS hKT vals) := by
  intro m f h1 h2
  obtain rfl | rfl | rfl | rfl : m = 1 ∨ m = 2 ∨ m = 3 ∨ m = 4 := by omega
  all_goals (intro P b c σ τ x Z U; cases b <;> kernel_rfl)
theorem zE3 (vals : List Value) : ∀ m f, 1 ≤ m → m ≤ 4 → (kE3 m f).Run (ktS hKT vals) := by
  intro m f h1 h2
  obtain rfl | rfl | rfl | rfl : m = 1 ∨ m = 2 ∨ m = 3 ∨ m = 4 := by omega
  all_goals (intro P b c σ τ x Z U; cases b <;> kernel_rfl)
theorem zC (vals : List Value) : ∀ told v, v ≤ 2 → ∀ X, (kSc told v X).Run (ktS hKT vals) := by
  intro told v hv X
  obtain rfl | rfl | rfl : v = 0 ∨ v = 1 ∨ v = 2 := by omega
  all_goals (cases told <;> (intro P b c σ τ x Z U; cases b <;> kernel_rfl))
theorem zRI (vals : List Value) : RI (ktS hKT vals) := by
  intro tg r W g place ops X M S hr
  obtain ⟨has, gives, way, k, t, i⟩ := r
  cases has <;> cases gives <;> first | (exact absurd hr (show ¬(false = true ∨ false = true) by decide)) | (cases tg <;> (intro P b c σ τ x Z U; cases b <;> cases c <;> kernel_rfl))
theorem zRD (vals : List Value) : RD (ktS hKT vals) := by
  intro tg r W g X M S Q hr hw
  obtain ⟨has, gives, way, k, t, i⟩ := r
  cases has <;> cases gives <;> first | (exact absurd hr (show ¬(false = true ∨ false = true) by decide)) | (cases tg <;> first | (obtain rfl : way = 0 := hw rfl; (intro P b c σ τ x Z U; cases b <;> kernel_rfl)) | (intro P b c σ τ x Z U; cases b <;> kernel_rfl))
theorem zR3o (vals : List Value) : ∀ told r m W g X M S Q X3, r.Ok → (r.gives = true ∧ (r.way = 1 ∨ r.way = 2)) → (k3 .out told r m W g X M S Q X3).Run (ktS hKT vals) := by
  intro told r m W g X M S Q X3 hr ho
  obtain ⟨has, gives, way, k, t, i⟩ := r
  obtain ⟨hg, hw⟩ := ho
  obtain rfl : gives = true := hg
  obtain rfl | rfl : way = 1 ∨ way = 2 := hw
  all_goals (cases told <;> cases has <;> (intro P b c σ τ x Z U; cases b <;> kernel_rfl))
theorem zR3t (vals : List Value) : ∀ told r m W g X M S Q X3, r.Ok → (k3 .tag told r m W g X M S Q X3).Run (ktS hKT vals) := by
  intro told r m W g X M S Q X3 hr
  obtain ⟨has, gives, way, k, t, i⟩ := r
  cases has <;> cases gives <;> first | (exact absurd hr (show ¬(false = true ∨ false = true) by decide)) | (cases told <;> (intro P b c σ τ x Z U; cases b <;> kernel_rfl))
theorem zR3p (vals : List Value) : ∀ told r m W g X M S Q X3, r.Ok → (k3 .plain told r m W g X M S Q X3).Run (ktS hKT vals) := by
  intro told r m W g X M S Q X3 hr
  obtain ⟨has, gives, way, k, t, i⟩ := r
  cases has <;> cases gives <;> first | (exact absurd hr (show ¬(false = true ∨ false = true) by decide)) | (cases told <;> (intro P b c σ τ x Z U; cases b <;> kernel_rfl))
theorem zD1 (vals : List Value) : ∀ told X, (kD1 told X).Run (ktS hKT vals) := by
  intro told X; cases told <;> (intro P b c σ τ x Z U; cases b <;> kernel_rfl)
theorem zD2f (vals : List Value) : ∀ z Y Q, (kD2 false 0 z Y Q).Run (ktS hKT vals) := by
  intro z Y Q; intro P b c σ τ x Z U; cases b <;> cases c <;> kernel_rfl
theorem zD2t (vals : List Value) : ∀ n, 1 ≤ n → n ≤ 4 → ∀ z Y Q, (kD2 true n z Y Q).Run (ktS hKT vals) := by
  intro n h1 h2 z Y Q
  obtain rfl | rfl | rfl | rfl : n = 1 ∨ n = 2 ∨ n = 3 ∨ n = 4 := by omega
  all_goals (intro P b c σ τ x Z U; cases b <;> cases c <;> kernel_rfl)
theorem zD3 (vals : List Value) : ∀ told, (kD3 told).Run (ktS hKT vals) := by
  intro told; cases told <;> (intro P b c σ τ x Z U; cases b <;> kernel_rfl)
theorem zD4 (vals : List Value) : ∀ told tg X, (kD4 told tg X).Run (ktS hKT vals) := by
  intro told tg X; cases told <;> cases tg <;> (intro P b c σ τ x Z U; cases b <;> kernel_rfl)
theorem zXa (vals : List Value) : kXa.Run (ktS hKT vals) := by
  intro P b c σ τ x Z U; cases b <;> kernel_rfl
theorem zXb (vals : List Value) : kXb.Run (ktS hKT vals) := by
  intro P b c σ τ x Z U; cases b <;> kernel_rfl
theorem zXc (vals : List Value) : kXc.Run (ktS hKT vals) := by
  intro P b c σ τ x Z U; cases b <;> kernel_rfl
theorem zX1 (vals : List Value) : ∀ d told r m W g X M S Q X3, d ≠ .out → (kX1 d told r m W g X M S Q X3).Run (ktS hKT vals) := by
  intro d told r m W g X M S Q X3 hd
  obtain ⟨has, gives, way, k, t, i⟩ := r
  cases d <;> first | (exact absurd rfl hd) | (cases told <;> cases has <;> cases gives <;> (refine SegE.run_of (fun P b c σ τ x Z U => ?_) (fun P b c σ τ x Z U e => ?_) <;> cases b <;> kernel_rfl))
theorem zX2 (vals : List Value) : ∀ tg r W g X M S Q x, r.Ok → (mk3 tg r.gives = true → r.way = 0) → (kX2 tg r W g X M S Q x).Run (ktS hKT vals) := by
  intro tg r W g X M S Q x hr hw
  obtain ⟨has, gives, way, k, t, i⟩ := r
  cases tg <;> cases has <;> cases gives <;> first | (exact absurd hr (show ¬(false = true ∨ false = true) by decide)) | (obtain rfl : way = 0 := hw rfl; (refine SegE.run_of (fun P b c σ τ x Z U => ?_) (fun P b c σ τ x Z U e => ?_) <;> cases b <;> kernel_rfl)) | (refine SegE.run_of (fun P b c σ τ x Z U => ?_) (fun P b c σ τ x Z U e => ?_) <;> cases b <;> kernel_rfl)
theorem zX3 (vals : List Value) : kX3.Run (ktS hKT vals) := by
  refine SegE.run_of (fun P b c σ τ x Z U => ?_) (fun P b c σ τ x Z U e => ?_) <;> cases b <;> kernel_rfl
theorem zX4 (vals : List Value) : ∀ S, (kX4 S).Run (ktS hKT vals) := by
  intro S; intro P b c σ τ x Z U; cases b <;> kernel_rfl
theorem zY0 (vals : List Value) : ∀ told sl sl1 d1 vs, (kY0 told sl sl1 d1 vs).Run (ktS hKT vals) := by
  intro told sl sl1 d1 vs
  cases told <;> (refine SegK.run_of (fun P b c σ τ x Z U => ?_) (fun P b c σ τ x Z U e => ?_)) <;> cases b <;> kernel_rfl
theorem zY (vals : List Value) : RY (ktS hKT vals) := by
  intro told sl f g U
  refine ⟨fun m h1 h4 => ?_, fun m h1 h4 => ?_⟩
  · obtain rfl | rfl | rfl | rfl : m = 1 ∨ m = 2 ∨ m = 3 ∨ m = 4 := by omega
    all_goals (cases told <;> (intro e P b c σ τ x Z V; unfold Seg.RunAt; cases b <;> kernel_rfl))
  · obtain rfl | rfl | rfl : m = 2 ∨ m = 3 ∨ m = 4 := by omega
    all_goals (cases told <;> (intro e P b c σ τ x Z V; unfold Seg.RunAt; cases b <;> kernel_rfl))
theorem zET (vals : List Value) : ExcTop (ktS hKT vals) := by
  exact ⟨fun P => (by kernel_rfl), fun P => (by kernel_rfl), fun P => (by kernel_rfl), fun P => (by kernel_rfl)⟩
theorem zFn (vals : List Value) : ∀ P, FnOk ((ktS hKT vals) P) := by
  exact fun P => fn_of (by kernel_rfl) (by kernel_rfl) (by kernel_rfl) (by kernel_rfl)
theorem zHH (vals : List Value) : ∀ P, suiteOf (lawHs ((ktS hKT vals) P)) = [.ExceptHandler none none (suiteB (lawHs ((ktS hKT vals) P))) (posH (lawHs ((ktS hKT vals) P)))] := by
  intro P
  kernel_rfl
theorem walk_goal : WalkGoal hKT := by
  refine walk_of (fun vals => ?_) (fun vals => ?_)
  · refine { hA := { hkLt := zkLt vals, hkGt := zkGt vals, hkNe := zkNe vals, hkEq := zkEq vals, hkIeq := zkIeq vals, hkIne := zkIne vals, hkSub := zkSub vals, hkEnt := zkEnt vals, hkSettle := zkSettle vals, hkWhole := zkWhole vals, hkDeclP := zkDeclP vals, hkDeclQ := zkDeclQ vals, hkLd := zkLd vals, hkLa := zkLa vals, hkLdn := zkLdn vals, hkLan := zkLan vals, hkCnt := zkCnt vals, hkChgS := zkChgS vals, hkChgT := zkChgT vals, hkChgU := zkChgU vals, hTop := tops_of (zTop vals), hSp := zSp vals, hSv := zSv vals, hRg := ⟨zRng vals, zIx vals⟩, hIt := zIt vals }, a00 := zA00 vals, a01 := fun m hm => ?_, a := zA vals, b := zB vals, r1 := ?_, e1 := zE1 vals, m := zM vals, t2 := zT2 vals, r2 := zR2 vals, e2 := zE2 vals, c := zC vals, ri := zRI vals, rd := zRD vals, r3 := ?_, e3 := zE3 vals, d1 := zD1 vals, d2 := ?_, d3 := zD3 vals, d4 := zD4 vals }
    · by_cases h1 : m ≤ 6
      · exact zA01x0 vals m (Nat.zero_le _) h1
      by_cases h2 : m ≤ 13
      · exact zA01x7 vals m (by omega) h2
      exact zA01x14 vals m (by omega) hm
    · intro tg later a b way k l old X hw ho
      cases old with
      | true =>
        obtain ⟨rfl, rfl, rfl⟩ := ho rfl
        exact zR1o vals a b k l X
      | false =>
        cases tg with
        | true => cases later with
          | true => exact zR1tt vals a b way k l X hw
          | false => exact zR1tf vals a b way k l X hw
        | false => cases later with
          | true => exact zR1ft vals a b way k l X hw
          | false => exact zR1ff vals a b way k l X hw
    · intro d told r m W g X M S Q X3 hr ho
      cases d with
      | out => exact zR3o vals told r m W g X M S Q X3 hr (ho rfl)
      | tag => exact zR3t vals told r m W g X M S Q X3 hr
      | plain => exact zR3p vals told r m W g X M S Q X3 hr
    · intro told n h1 h2 z Y Q
      cases told with
      | false =>
        obtain rfl := h1 rfl
        exact zD2f vals z Y Q
      | true =>
        obtain ⟨h3, h4⟩ := h2 rfl
        exact zD2t vals n h3 h4 z Y Q
  · exact { xa := zXa vals, xb := zXb vals, xc := zXc vals, x1 := zX1 vals, x2 := zX2 vals, x3 := zX3 vals, x4 := zX4 vals, y0 := zY0 vals, y := zY vals, top := zET vals, fn := zFn vals, hH := zHH vals }
end Mine
end
theorem PySem.Challenge.cw_rg0017_01_holds : PySem.Challenge.rw_rg0017_01.Holds :=
  Mine.head_of Mine.walk_goal
