import PyProof.Rows.All
import Wide.All
import OpenK.AllK
import Wide.FinOn
import PySem.Challenge.RW_np0298_01
open PySem PySem.W PySem.Calls PyProof.Rows
set_option Elab.async false
set_option maxRecDepth 100000
set_option maxHeartbeats 0
set_option compiler.extract_closed false

namespace Mine
noncomputable def isAsg : Stmt → Bool | .Assign .. => true | _ => false
noncomputable def Vw : Program := { PySem.Challenge.pw_np0298_01 with main := { PySem.Challenge.pw_np0298_01.main with body := PySem.Challenge.pw_np0298_01.main.body.filter fun s => !isAsg s } }
/- the look at the law's own words, by the library's twin of it -/
theorem said0 : PySem.Challenge.rw_np0298_01.wellSaid = true := by rw [PySem.W.Fast.te9446332074065402090]; kernel_rfl

/- the top's run over a tree of objects: the library's stepT, run to the end of the top -/
noncomputable def runG (ok : Thread → Bool) (stp : SharedT → Thread → Option (SharedT × Thread)) : Nat → SharedT → Thread → Option SharedT
  | 0, _, _ => none
  | n + 1, s, t => match through t with
    | true => some s
    | false => match ok t with
      | false => none
      | true => match stp s t with
        | some (s', t') => runG ok stp n s' t'
        | none => none
theorem runG_of {tb : String → Option Builtin} {p : Program} {w : World} {n₀ : Nat} {ann : Option Value} : ∀ {n : Nat} {s s' : SharedT} {t : Thread}, runG (stepOk n₀ ann) (stepT (denote tb) p w) n s t = some s' → topRun tb p w n₀ ann n s.abs t = some s'.abs
  | 0, _, _, _, h => by cases h
  | n + 1, s, s', t, h => by
    unfold runG at h
    unfold topRun
    cases he : through t with
    | true => rw [he] at h; cases h; rfl
    | false =>
      rw [he] at h
      cases hk : stepOk n₀ ann t with
      | false => rw [hk] at h; cases h
      | true =>
        rw [hk] at h
        cases hs : stepT (denote tb) p w s t with
        | none => rw [hs] at h; cases h
        | some r => obtain ⟨s₂, t₂⟩ := r; rw [hs] at h; rw [stepT_spec hs]; exact runG_of h
noncomputable def T0 (P : Params) : BT :=
  .node (boot_o_0 P)
    (.node (boot_o_1 P) (.node (boot_o_3 P) (.node (boot_o_7 P) .nil .nil) .nil) (.node (boot_o_5 P) (.node (boot_o_9 P) .nil .nil) .nil))
    (.node (boot_o_2 P) (.node (boot_o_4 P) (.node (boot_o_8 P) .nil .nil) .nil) (.node (boot_o_6 P) (.node (boot_o_10 P) .nil .nil) .nil))
theorem T0_abs (P : Params) : absHeap (T0 P) 11 (boot_heap P).life = boot_heap P := by kernel_rfl

open PySem.W.Fast in
noncomputable def RF (p : Program) (N : Nat) (w : World) (os : OsState) : Option SharedT :=
  runG (tw6613529449190102663 11 (some (.ref 6))) (tw10156331382660048174 (tw11892475500146522536 tw14364793385576792824) p w) N ⟨T0 w.params, 11, (boot_heap w.params).life, Array.mk [], boot_drawn, boot_toks, os⟩ (topStub p)
open PySem.W.Fast in
theorem RF_of {p : Program} {N : Nat} {w : World} {os : OsState} {s : SharedT} (h : RF p N w os = some s) : topRun treeTable p w 11 (some (.ref 6)) N ⟨boot_heap w.params, Array.mk [], boot_drawn, boot_toks, os⟩ (topStub p) = some s.abs := by
  unfold RF at h
  rw [← te6613529449190102663, ← te10156331382660048174, ← te11892475500146522536, ← te14364793385576792824] at h
  have r := runG_of h
  unfold SharedT.abs at r
  dsimp only at r
  rw [T0_abs] at r
  exact r
noncomputable def lookTop (p : Program) (P : Params) (s : Shared) : Bool := staticsOk (importedModules p.main.body) (boot_heap P) s.heap && namesBound p s.heap && gensDone s && laidKept (boot_heap P) s.heap
theorem boot_size (P : Params) : (boot_heap P).objs.size = 11 := by kernel_rfl
theorem boot_ann (P : Params) : (boot_heap P).nsMap mainGlobals "__annotations__" = some (.ref 6) := by kernel_rfl
theorem boot_ns (P : Params) : (boot_heap P).isNs mainGlobals = true := by kernel_rfl
theorem topFrom_of {p : Program} {w : World} {N m t : Nat} {a : Option Value} {d : Drawn} {os : OsState} {H : Heap} {s₁ : Shared} (b1 : H.isNs mainGlobals = true) (b2 : H.objs.size = m) (b3 : H.nsMap mainGlobals "__annotations__" = a)
    (r : topRun treeTable p w m a N ⟨H, Array.mk [], d, t, os⟩ (topStub p) = some s₁) (l : (staticsOk (importedModules p.main.body) H s₁.heap && namesBound p s₁.heap && gensDone s₁ && laidKept H s₁.heap) = true) :
    topFrom treeTable p w N ⟨H, Array.mk [], d, t, os⟩ = some s₁ := by
  unfold topFrom
  dsimp only
  rw [b1, b2, b3, r]
  show (match staticsOk (importedModules p.main.body) H s₁.heap && namesBound p s₁.heap && gensDone s₁ && laidKept H s₁.heap with | true => some s₁ | false => none) = some s₁
  rw [l]
theorem left_tree {p q : Program} {loose : List Str} {Xt : Shared → Bool} {α : Type} {Yf : Shared → α} {Ya : World → α} {N : Nat} {g0 : Bool} (e : opening p = plainProg p.main.scope.names) (hN : Nat.ble 600 N = true) (f : ∀ s, fenceModules? p s = some s)
    (h1 : ∀ w os, (RF p N w os).map (fun s => (lookTop p w.params s.abs, openSeen q loose (importedModules p.main.body) Xt g0 s.abs)) = some (true, openGood q loose))
    (h2 : ∀ w os, (RF p N w os).map (fun s => Yf s.abs) = some (Ya w)) : LeftO p q loose Xt Yf Ya N g0 := by
  intro w
  obtain ⟨⟨hh, gg, dd, tt, os⟩, e1, e2⟩ := Option.map_eq_some_iff.mp (boot_open e hN f w)
  cases e2
  obtain ⟨s, x1, x2⟩ := Option.map_eq_some_iff.mp (h1 w os)
  obtain ⟨x3, x4⟩ := Prod.mk.inj x2
  have y := h2 w os
  rw [x1] at y
  have z : openEnds treeTable p w N = some s.abs := by
    unfold openEnds
    rw [e1, Option.bind_some]
    exact topFrom_of (boot_ns _) (boot_size _) (boot_ann _) (RF_of x1) x3
  rw [z]
  exact congrArg some (Prod.ext x4 (Option.some.inj y))
theorem left1 : ∀ w os, (RF PySem.Challenge.pw_np0298_01 5988 w os).map (fun s => (lookTop PySem.Challenge.pw_np0298_01 w.params s.abs, openSeen Vw [Str.ofString "SnobolError"] (importedModules PySem.Challenge.pw_np0298_01.main.body) (fun s => xlAt Mine.Vw [] s && recOk (RowW.records PySem.Challenge.rw_np0298_01.row.toRowW) s) true s.abs)) = some (true, openGood Vw [Str.ofString "SnobolError"]) := by intro w os; kernel_rfl

local macro_rules
  | `(tactic| o_law) => `(tactic| refine holds_law Mine.said0 fun said => ?_)
theorem headH (H : Hook) {d : DefRec} {kwd : List (Str × Expr)} (hdef : defOf Vw PySem.Challenge.rw_np0298_01.row.name = some (d, kwd)) (hp : PySem.Challenge.rw_np0298_01.row.prog.theDef PySem.Challenge.rw_np0298_01.row.name = some (d.params, d.body, d.scope))
    (hk : kwWritten? d.params.kwonlyargs d.params.kw_defaults = some kwd) (k1 : PySem.Challenge.rw_np0298_01.row.wellSaid = true) (hw : PySem.Challenge.rw_np0298_01.row.toRowW.promised)
    (hc : LeftO PySem.Challenge.rw_np0298_01.row.prog Vw [Str.ofString "SnobolError"] (fun s => xlAt Vw [] s && recOk (RowW.records PySem.Challenge.rw_np0298_01.row.toRowW) s) H.obs H.val 5988 ∧
      WalkO Vw [Str.ofString "SnobolError"] (XL Vw []) H.says PySem.Challenge.rw_np0298_01.row.toRowW d kwd fun f vs => PySem.call f vs) : PySem.Challenge.rw_np0298_01.row.Holds :=
  holds_open (Xt := fun s => xlAt Vw [] s && recOk (RowW.records PySem.Challenge.rw_np0298_01.row.toRowW) s) hc.1 H.of H.keeps (fun s e => xl_of s (Bool.and_eq_true_iff.mp e).1) XL.keeps hdef hp hk (fun s e => recFacts_of (Bool.and_eq_true_iff.mp e).2) rfl k1 (by decide +kernel) ⟨rfl, rfl, rfl, rfl, rfl, by decide +kernel⟩ hw hc.2
local macro_rules
  | `(tactic| o_head $H:term) => `(tactic| refine' Mine.headH $H (by rfl) (by rfl) (by rfl) (by assumption) ?hw ?hc)
open_top hd for PySem.Challenge.rw_np0298_01
theorem opens : opening PySem.Challenge.pw_np0298_01 = plainProg PySem.Challenge.pw_np0298_01.main.scope.names := by kernel_rfl
theorem fences : ∀ s, fenceModules? PySem.Challenge.pw_np0298_01 s = some s := by intro s; kernel_rfl

noncomputable abbrev fstOf {l : OpenLaw} {P Q : Prop} (_h : P ∧ Q → l.Holds) : Prop := P
theorem left : fstOf hd := left_tree opens (by decide +kernel) fences left1 (by intro w os; kernel_rfl)

/- the walk goes on as behind no top (open_top leaves the top arm on) -/
theorem quiet : True := by
  w_top off
  trivial

/-! Words out of which the walk's own lines are made: small builders of syntax, so that each line stays short in the compiled file. -/
abbrev MT := Lean.MacroM (Lean.TSyntax `tactic)
def idq (h : Bool) (x : String) : Lean.MacroM Lean.Ident := do
  if h then return Lean.mkIdent (← Lean.Macro.addMacroScope x.toName) else return Lean.mkIdent x.toName
def mapS {α β : Type} (f : α → Lean.MacroM β) (l : List α) : Lean.MacroM (List β) := return (← l.foldlM (fun r a => do return (← f a) :: r) []).reverse
def idsOf (h : Bool) (s : String) : Lean.MacroM (Array Lean.Ident) := return (← mapS (idq h) (s.splitOn " ")).toArray
def sq (a : Lean.TSyntax `tactic) (l : List (Lean.TSyntax `tactic)) : MT := l.foldlM (fun a b => `(tactic| ($a:tactic; $b:tactic))) a
def wordT (k w : String) : Lean.TSyntax `tactic := ⟨.node .none k.toName #[.atom .none w]⟩
def wordK (w : String) : Lean.TSyntax `tactic := wordT ("PySem.W.tacticK_" ++ w) ("k_" ++ w)
/-- small tactics by a letter -/
def wordD (k w : String) : Lean.TSyntax `tactic := ⟨.node .none k.toName #[.atom .none w, .node .none "Lean.Parser.Tactic.optConfig".toName #[.node .none "null".toName #[]]]⟩
def wrR (t : Lean.TSyntax `tactic) : MT := `(tactic| with_reducible $t:tactic)
def firstR (l : List (Lean.TSyntax `tactic)) : MT := `(tactic| first $[| $(l.toArray):tactic]*)
def tacC0 (c : Char) : MT :=
  match c with
  | 'a' => return wordK "asm"
  | 'i' => return wordK "is"
  | 'n' => return wordK "in"
  | 'y' => return wordK "types"
  | 'k' => return wordK "inst"
  | 'M' => return wordK "mem"
  | 'N' => return wordT "PySem.W.tacticKin_no" "kin_no"
  | 'c' => return wordT "PySem.W.tacticKn_code" "kn_code"
  | 'f' => return wordT "PyProof.Rows.tacticBoot_fast" "boot_fast"
  | 's' => return wordT "Lean.Parser.Tactic.assumption" "assumption"
  | 'd' => return wordD "Lean.Parser.Tactic.decide" "decide"
  | 'o' => return wordD "Lean.Parser.Tactic.omega" "omega"
  | 'w' => wrR (wordT "Lean.Parser.Tactic.assumption" "assumption")
  | 'u' => `(tactic| with_unfolding_all rfl)
  | 'W' => `(tactic| (refine $(Lean.mkIdent "TabW.more".toName) (fun p $(Lean.mkIdent "hp".toName):ident => ?_) ‹_›; walk_at "my up"))
  | 'e' => `(tactic| (intro e; cases e))
  | _ => `(tactic| exact rfl)
def holes (n : Nat) : Lean.MacroM (Array (Lean.TSyntax `term)) := return (List.replicate n (← `(_))).toArray
/-- the lemma's name with its arguments by a letter each: _ and ? as in Lean, $ the frame's fact, any other letter a named hole -/
def apC (lem args : String) : Lean.MacroM (Lean.TSyntax `term) := do
  let as ← args.toList |> mapS (β := Lean.TSyntax `term) fun c => do
    let i ← idq true (if c == '$' then "lF'" else String.singleton c)
    if c == '_' then `(_) else if c == '?' then `(?_) else if c == '$' then return i else `(?$i:ident)
  return Lean.Syntax.mkApp (Lean.mkIdent lem.toName) as.toArray
def csC (f : Char → MT) (l : List Char) : Lean.MacroM (List (Lean.TSyntax `tactic)) :=
  mapS (fun k => do
    let i ← idq true (String.singleton (l.getD (2 * k) 'a'))
    let tac ← f (l.getD (2 * k + 1) 'a')
    `(tactic| (case $i:ident => $tac:tactic))) (List.range (l.length / 2))
def rfG (f : Char → MT) (lem args cs : String) : MT := do sq (← `(tactic| refine' $(← apC lem args))) (← csC f cs.toList)
def tacC (c : Char) : MT :=
  match c with
  | 'm' => do firstR [← tacC0 'w', ← tacC0 'M']
  | 'q' => do firstR [← tacC0 'w', ← tacC0 'o']
  | 'h' => do firstR [← tacC0 's', ← tacC0 'W']
  | 'p' => do firstR [← tacC0 'w', ← rfG tacC0 "trivial" "" "", ← rfG tacC0 "And.intro" "xy" "xwyw", ← rfG tacC0 "Exists.intro" "_x" "xr"]
  | 'b' => rfG tacC0 "Top.nolimit" "x" "xa"
  | 'L' => do firstR [← tacC0 'r', ← `(tactic| exact $(Lean.mkIdent `e0) _), ← `(tactic| exact ‹∀ y, _ = List.lookup y _› _), ← `(tactic| exact ‹∀ y, _ = bindL _ _ _ y› _)]
  | 'z' => rfG tacC0 "Nat.le_of_ble_eq_true" "x" "xr"
  | 'v' => rfG tacC0 "List.cons_ne_nil" "__" ""
  | _ => tacC0 c
def rf (lem args cs : String) : MT := rfG tacC lem args cs
def rfw (lem args cs : String) : MT := do sq (← rf lem args cs) [wordK "whole"]
def inC (h : Bool) (s : String) : MT := do `(tactic| intro $(← idsOf h s):ident*)
def dfltR (t : Lean.TSyntax `tactic) : MT := `(tactic| (k_here; k_dflt $t:tactic))
/-- taking the callee's word apart: names before the bar stand in an inner pair of angles -/
def obC (h : Bool) (s : String) : MT := do
  let x ← idq h "p9"
  let y := s.splitOn "|"
  let i ← idsOf h (y.headD "")
  let p ← `(rcasesPat| ⟨$[$i:ident],*⟩)
  match y with
  | [_, b] => `(tactic| obtain ⟨$p:rcasesPat, $(← idq h b):ident⟩ := $x:ident)
  | _ => `(tactic| obtain $p:rcasesPat := $x:ident)
def suC (h : Bool) (s : String) : Lean.MacroM (List (Lean.TSyntax `tactic)) := do
  mapS (fun i => `(tactic| subst $i:ident)) (← idsOf h s).toList
def afC (h : Bool) (pat sub : String) : MT := do
  sq (← inC h "v9 n9 h9 tk9 F9 N9 p9") ((← obC h pat) :: (← suC h sub))
/-- what a goal runs, in short: a head and its arguments: _, C:n (a constructor and n holes), @x (the text x) -/
def runT (s : String) : Lean.MacroM (Lean.TSyntax `term) := do
  let y := s.splitOn " "
  let as ← (y.drop 1) |> mapS (β := Lean.TSyntax `term) fun (a : String) => do
    let z := a.splitOn ":"
    if a.startsWith "[" then
      let h ← `(_)
      return Lean.Syntax.mkApp (Lean.mkIdent "List.cons".toName) #[Lean.Syntax.mkApp (Lean.mkIdent ("Value." ++ (a.drop 1).toString).toName) (← holes (if a == "[int" then 2 else 1)), h]
    else if a.startsWith "!" then return Lean.Syntax.mkApp (Lean.mkIdent "Value.builtin".toName) #[Lean.quote (a.drop 1).toString]
    else if a.startsWith "@" then return Lean.Syntax.mkApp (Lean.mkIdent "PySem.Str.ofString".toName) #[Lean.quote (a.drop 1).toString]
    else if a == "_" then `(_)
    else match (z.getD 1 "").toNat? with
      | some n => return Lean.Syntax.mkApp (Lean.mkIdent (z.headD "").toName) (← holes n)
      | none => `(_)
  `(wpAny _ _ $(Lean.Syntax.mkApp (Lean.mkIdent (y.headD "").toName) as.toArray) _ _ _)
def callT (n : Nat) (k : String) : Lean.MacroM (Lean.TSyntax `term) := do
  `(wpAny _ _ (call (Value.ref $(Lean.quote n)) $(← holes (if k == "" then 1 else 2))*) _ _ _)
def showR (t : Lean.TSyntax `term) : MT := `(tactic| with_reducible show $t)
def atR (s : String) (t : Lean.TSyntax `tactic) : MT := do `(tactic| ($(← showR (← runT s)):tactic; k_dflt $t:tactic))
/-- behind the entry of a function: its first locals behind a name -/
def genR : MT := do
  let e := Lean.mkIdent `e0
  `(tactic| ($(← showR (← runT "execs _ _")):tactic; with_reducible (first | rename Fr _ _ _ (fun y => List.lookup y _) => lG | rename Fr _ _ _ (bindL _ _ _) => lG); refine $(Lean.mkIdent `fr_gen) lG ?_; clear lG; intro m0 $e:ident lG; (try dsimp only at $e:ident)))
/-- the call of a function by its contract; with the names of a second branch where the function may raise -/
def use9 (n : Nat) (lem args cs : String) (h : Bool) (pat sub : String) (sweep : Bool) (x : Bool := false) (more : List (Lean.TSyntax `tactic) := []) : MT := do
  let t ← apC lem args
  let k ← idq true "K"
  let y := if x then "useX" else if pat == "t9 e9|e8" then "useT" else if pat != "e9 e8" then "use" else if sub == "e9" then "useM" else "useE"
  let f := Lean.mkIdent y.toName
  let u ← if x then `(tactic| refine' $f $t ?$k ?_ ?_) else `(tactic| refine' $f $t ?$k ?_)
  let fold ← `(tactic| try k_fold)
  let u ← sq fold (u :: (← csC tacC cs.toList))
  let mid ← if x then pure [← `(tactic| rotate_left 1), ← inC false "zE zD zK zt1 zt2 zt3 zv zg zh0 ztk zk zFg zU0 zR0", ← `(tactic| rotate_right 1)] else pure []
  let z ← `(tactic| try k_sweep)
  let aft ← if y == "useT" then inC h "t9 h9 tk9 F9 N9" else if y == "useE" then inC h "h9 tk9 F9 N9" else if y == "useM" then inC h "n9 h9 tk9 F9 N9 e8" else afC h pat sub
  sq (wordK "here") ([← showR (← callT n ""), ← `(tactic| k_dflt $u:tactic)] ++ mid ++ [aft] ++ more ++ [← `(tactic| try dsimp only), fold] ++ (if sweep then [z] else []))
/-- where a walk is to stop: calls by their addresses, other runs in short -/
def stops (l : List Nat) (m : List String) : MT := do
  let ts ← mapS (fun n => do showR (← callT n (if n == 265 then "k" else ""))) l
  let us ← mapS (fun s => do showR (← runT s)) m
  `(tactic| fail_if_success (first $[| $((us ++ ts).toArray):tactic]*))
def steps (l : List Nat) (m : List String) : MT := do `(tactic| repeat' ($(← stops l m):tactic; walk_at "my step"))
def forR (lem args cs : String) : MT := do
  let f ← idq true "lF'"
  `(tactic| (k_here; (rename Fr _ _ _ _ => $f:ident); k_dflt (with_unfolding_all $(← rfw lem args cs):tactic)))
def upR (x : Lean.TSyntax `tactic) : MT := `(tactic| repeat (first | $x:tactic | refine List.mem_cons_of_mem _ ?_))


section
noncomputable def isDig (c : Nat) : Bool := decide (48 ≤ c) && decide (c ≤ 57)
noncomputable def numAcc (l : List Nat) : Int := l.foldl (fun (a : Int) (c : Nat) => 10 * a + (c : Int) - 48) 0
noncomputable def fitsB (n wd : Int) : Bool := decide (-(2 ^ (wd - 1).toNat : Int) ≤ n) && decide (n < 2 ^ (wd - 1).toNat)
noncomputable def signed (c : Nat) : Bool := c == 43 || c == 45
noncomputable def readL (l : List Nat) (wd : Int) : Option Int :=
  match l with
  | [] => some 0
  | c :: r =>
    let ds := if signed c = true then r else c :: r
    if ds = [] ∨ wd < (ds.length : Int) ∨ ds.all isDig = false then none
    else
      let n := if c = 45 then -numAcc ds else numAcc ds
      if fitsB n wd = true then some n else none
noncomputable def readT (x : Str) (wd : Int) : Option Int := readL x.cps.toList wd
noncomputable def optV : Option Int → Tok → Value
  | some n, t => .int n t
  | none, _ => .none
theorem str_ne {x : Str} (h : (x == Str.ofString "") = false) : ∃ c r, x.cps.toList = c :: r := by
  cases hl : x.cps.toList with
  | cons c r => exact ⟨c, r, rfl⟩
  | nil =>
    exfalso
    have : x = Str.ofString "" := by
      obtain ⟨a⟩ := x
      have : a = #[] := Array.toList_inj.mp hl
      subst this
      decide +kernel
    subst this
    exact absurd h (by decide +kernel)
theorem str_eq {x : Str} (h : (x == Str.ofString "") = true) : x.cps.toList = [] := by
  have := eq_of_beq h
  subst this
  decide +kernel
theorem slice1 {x : Str} {c : Nat} {r : List Nat} (h : x.cps.toList = c :: r) : Txt.slice x (some 1) none = ⟨r.toArray⟩ := by
  have hs : x.length = r.length + 1 := by
    show x.cps.size = _
    rw [← Array.length_toList, h]; rfl
  rw [slice_from_eq (b := (x.length : Int)) (by decide) (by omega) rfl, h, hs]
  have e : ((↑(r.length + 1) : Int) - 1).toNat = r.length := by omega
  rw [e]
  simp
theorem item0 {x : Str} {c : Nat} {r : List Nat} (h : x.cps.toList = c :: r) : Txt.item x 0 = ⟨#[c]⟩ := by
  have hs : x.length = r.length + 1 := by
    show x.cps.size = _
    rw [← Array.length_toList, h]; rfl
  have h0 : x.cps[0]? = some c := by rw [← Array.getElem?_toList, h]; rfl
  unfold Txt.item Txt.charAt
  have e : seqIndex? 0 x.length = some 0 := by
    unfold seqIndex?
    rw [hs]
    simp
  rw [e]
  simp [h0]
theorem in_signs {c : Nat} : (Builtin.Str.occurrences (Str.ofString "+-") ⟨#[c]⟩ 0 (Str.ofString "+-").length 1).isEmpty = !signed c := by
  have := StrLaws.found_one (Str.ofString "+-") c
  have e : (Str.ofString "+-").cps.toList = [43, 45] := by decide +kernel
  rw [e] at this
  rw [← Bool.not_not ((Builtin.Str.occurrences (Str.ofString "+-") ⟨#[c]⟩ 0 (Str.ofString "+-").length 1).isEmpty), this]
  congr 1
  unfold signed
  simp
  rfl
theorem one_eq {c d : Nat} : ((⟨#[c]⟩ : Str) == ⟨#[d]⟩) = (c == d) := by
  rw [Bool.eq_iff_iff]
  simp
theorem lt_zero {c : Nat} : ((⟨#[c]⟩ : Str).cps.toList < (Str.ofString "0").cps.toList) ↔ c < 48 := by
  rw [show (Str.ofString "0").cps.toList = [48] from by decide +kernel]
  show [c] < [48] ↔ c < 48
  rw [List.cons_lt_cons_iff]
  simp
theorem nine_lt {c : Nat} : ((Str.ofString "9").cps.toList < (⟨#[c]⟩ : Str).cps.toList) ↔ 57 < c := by
  rw [show (Str.ofString "9").cps.toList = [57] from by decide +kernel]
  show [57] < [c] ↔ 57 < c
  rw [List.cons_lt_cons_iff]
  simp
theorem dig_lo {c : Nat} (h : (⟨#[c]⟩ : Str).cps.toList < (Str.ofString "0").cps.toList) : isDig c = false := by
  have := lt_zero.mp h
  unfold isDig
  simp
  omega
theorem dig_hi {c : Nat} (h : (Str.ofString "9").cps.toList < (⟨#[c]⟩ : Str).cps.toList) : isDig c = false := by
  have := nine_lt.mp h
  unfold isDig
  simp
  omega
theorem dig_in {c : Nat} (h : ¬ (⟨#[c]⟩ : Str).cps.toList < (Str.ofString "0").cps.toList) (h2 : ¬ (Str.ofString "9").cps.toList < (⟨#[c]⟩ : Str).cps.toList) : isDig c = true := by
  rw [lt_zero] at h
  rw [nine_lt] at h2
  unfold isDig
  simp
  omega
noncomputable def Ds (x ds : Str) : Prop := ∃ c r, x.cps.toList = c :: r ∧ ds.cps.toList = (if signed c = true then r else c :: r)
theorem Ds.of1 {x : Str} (hn : (x == Str.ofString "") = false) (ho : (Builtin.Str.occurrences (Str.ofString "+-") (Txt.item x 0) 0 (Str.ofString "+-").length 1).isEmpty = true) : Ds x x := by
  obtain ⟨c, r, hl⟩ := str_ne hn
  rw [item0 hl, in_signs] at ho
  refine ⟨c, r, hl, ?_⟩
  rw [if_neg (by simpa using ho)]
  exact hl
theorem Ds.of2 {x : Str} (hn : (x == Str.ofString "") = false) (ho : (Builtin.Str.occurrences (Str.ofString "+-") (Txt.item x 0) 0 (Str.ofString "+-").length 1).isEmpty = false) : Ds x (Txt.slice x (some 1) none) := by
  obtain ⟨c, r, hl⟩ := str_ne hn
  rw [item0 hl, in_signs] at ho
  refine ⟨c, r, hl, ?_⟩
  rw [if_pos (by simpa using ho), slice1 hl]
theorem Ds.eq {x ds : Str} {wd : Int} (D : Ds x ds) : ∃ c, Txt.item x 0 = ⟨#[c]⟩ ∧ readT x wd = if ds.cps.toList = [] ∨ wd < (ds.length : Int) ∨ ds.cps.toList.all isDig = false then none
    else if fitsB (if c = 45 then -numAcc ds.cps.toList else numAcc ds.cps.toList) wd = true then some (if c = 45 then -numAcc ds.cps.toList else numAcc ds.cps.toList) else none := by
  obtain ⟨c, r, hl, hd⟩ := D
  refine ⟨c, item0 hl, ?_⟩
  unfold readT
  have e : (ds.length : Int) = (ds.cps.toList.length : Int) := by rw [Array.length_toList]; rfl
  rw [hl, e, hd]
  rfl
theorem Ds.empty {x ds : Str} {wd : Int} (D : Ds x ds) (h : (ds == Str.ofString "") = true) : readT x wd = none := by
  obtain ⟨c, _, e⟩ := D.eq (wd := wd)
  rw [e, if_pos (.inl (str_eq h))]
theorem Ds.long {x ds : Str} {wd : Int} (D : Ds x ds) (h : wd < (ds.length : Int)) : readT x wd = none := by
  obtain ⟨c, _, e⟩ := D.eq (wd := wd)
  rw [e, if_pos (.inr (.inl h))]
theorem Ds.bad {x ds : Str} {wd : Int} (D : Ds x ds) {l post : List Nat} {c : Nat} (h : ds.cps.toList = l ++ c :: post) (hb : isDig c = false) : readT x wd = none := by
  obtain ⟨c, _, e⟩ := D.eq (wd := wd)
  refine e.trans (if_pos (.inr (.inr ?_)))
  rw [h, List.all_append, List.all_cons, hb]
  simp
theorem Ds.ok {x ds : Str} {wd : Int} {b : Bool} (D : Ds x ds) (hne : ds.cps.toList ≠ []) (hw : ¬ wd < (ds.length : Int)) (hd : ds.cps.toList.all isDig = true) (hm : (Txt.item x 0 == Str.ofString "-") = b) :
    readT x wd = if fitsB (if b = true then -numAcc ds.cps.toList else numAcc ds.cps.toList) wd = true then some (if b = true then -numAcc ds.cps.toList else numAcc ds.cps.toList) else none := by
  obtain ⟨c, hc, e⟩ := D.eq (wd := wd)
  rw [hc, show Str.ofString "-" = ⟨#[45]⟩ from by decide +kernel, one_eq] at hm
  rw [e, if_neg (by rintro (h | h | h); exact hne h; exact hw h; rw [hd] at h; cases h)]
  subst hm
  by_cases h : c = 45 <;> simp [h]
theorem Ds.ne1 {x : Str} (hn : (x == Str.ofString "") = false) : x.cps.toList ≠ [] := by
  obtain ⟨c, r, hl⟩ := str_ne hn
  rw [hl]
  exact List.cons_ne_nil _ _
theorem numAcc_snoc (l : List Nat) (c : Nat) : numAcc (l ++ [c]) = 10 * numAcc l + (c : Int) - 48 := by
  unfold numAcc
  rw [List.foldl_append]
  rfl
theorem all_snoc {l : List Nat} {c : Nat} (h : l.all isDig = true) (hc : isDig c = true) : (l ++ [c]).all isDig = true := by
  rw [List.all_append, h]
  simp [hc]
theorem ex_none {o : Option Int} (h : o = none) : ∃ t, Value.none = optV o t := ⟨0, by rw [h]; rfl⟩
theorem ex_some {o : Option Int} {n : Int} {tk : Tok} (h : o = some n) : ∃ t, Value.int n tk = optV o t := ⟨tk, by rw [h]; rfl⟩
theorem rd0 {x : Str} {wd : Int} (h : (x == Str.ofString "") = true) : readT x wd = some 0 := by
  unfold readT
  rw [str_eq h]
  rfl
theorem Ds.okT {x ds : Str} {wd : Int} (D : Ds x ds) (hne : ds.cps.toList ≠ []) (hw : ¬ wd < (ds.length : Int)) (hd : ds.cps.toList.all isDig = true) (hm : (Txt.item x 0 == Str.ofString "-") = true)
    (hf : fitsB (-numAcc ds.cps.toList) wd = true) : readT x wd = some (-numAcc ds.cps.toList) := by
  rw [D.ok hne hw hd hm]; simp [hf]
theorem Ds.okTn {x ds : Str} {wd : Int} (D : Ds x ds) (hne : ds.cps.toList ≠ []) (hw : ¬ wd < (ds.length : Int)) (hd : ds.cps.toList.all isDig = true) (hm : (Txt.item x 0 == Str.ofString "-") = true)
    (hf : fitsB (-numAcc ds.cps.toList) wd = false) : readT x wd = none := by
  rw [D.ok hne hw hd hm]; simp [hf]
theorem Ds.okF {x ds : Str} {wd : Int} (D : Ds x ds) (hne : ds.cps.toList ≠ []) (hw : ¬ wd < (ds.length : Int)) (hd : ds.cps.toList.all isDig = true) (hm : (Txt.item x 0 == Str.ofString "-") = false)
    (hf : fitsB (numAcc ds.cps.toList) wd = true) : readT x wd = some (numAcc ds.cps.toList) := by
  rw [D.ok hne hw hd hm]; simp [hf]
theorem Ds.okFn {x ds : Str} {wd : Int} (D : Ds x ds) (hne : ds.cps.toList ≠ []) (hw : ¬ wd < (ds.length : Int)) (hd : ds.cps.toList.all isDig = true) (hm : (Txt.item x 0 == Str.ofString "-") = false)
    (hf : fitsB (numAcc ds.cps.toList) wd = false) : readT x wd = none := by
  rw [D.ok hne hw hd hm]; simp [hf]
noncomputable def decs (n : Nat) : List Nat := if n < 10 then [48 + n] else decs (n / 10) ++ [48 + n % 10]
termination_by n
decreasing_by omega
noncomputable def WInv (n a : Nat) (l : List Nat) : Prop := (l = [] ∧ a = n) ∨ (l ≠ [] ∧ (if a = 0 then l else decs a ++ l) = decs n)
noncomputable def writeT (n : Int) : Str := if n < 0 then ⟨(45 :: decs n.natAbs).toArray⟩ else ⟨(decs n.natAbs).toArray⟩
theorem decs_len : ∀ (k n : Nat), n < 10 ^ (k + 1) → (decs n).length ≤ k + 1 := by
  intro k
  induction k with
  | zero => intro n h; rw [decs, if_pos (by simpa using h)]; simp
  | succ k ih =>
    intro n h
    rw [decs]
    split
    · simp
    · have := ih (n / 10) (by rw [Nat.pow_succ] at h; omega)
      rw [List.length_append]
      simp
      omega
theorem WInv.step {n a : Nat} {l : List Nat} (h : WInv n a l) (hg : 0 < a ∨ l = []) : WInv n (a / 10) ((48 + a % 10) :: l) := by
  refine .inr ⟨List.cons_ne_nil _ _, ?_⟩
  have key : (if a / 10 = 0 then (48 + a % 10) :: l else decs (a / 10) ++ (48 + a % 10) :: l) = decs a ++ l := by
    rw [decs.eq_1 a]
    by_cases ha : a < 10
    · rw [if_pos ha, if_pos (by omega), Nat.mod_eq_of_lt ha]; rfl
    · rw [if_neg ha, if_neg (by omega), List.append_assoc]; rfl
  rw [key]
  rcases h with ⟨rfl, rfl⟩ | ⟨hl, h⟩
  · simp
  · rcases hg with hg | hg
    · rw [if_neg (by omega)] at h; exact h
    · exact absurd hg hl
theorem WInv.done {n a : Nat} {l : List Nat} (h : WInv n a l) (h1 : ¬ 0 < a) (h2 : l ≠ []) : l = decs n := by
  rcases h with ⟨rfl, rfl⟩ | ⟨hl, h⟩
  · exact absurd rfl h2
  · rwa [if_pos (by omega)] at h
theorem decs_pos (n : Nat) : 0 < (decs n).length := by
  rw [decs]; split <;> simp
theorem WInv.len {n a : Nat} {l : List Nat} (h : WInv n a l) (hn : n < 10 ^ 13) : l.length ≤ 13 := by
  have := decs_len 12 n hn
  rcases h with ⟨rfl, rfl⟩ | ⟨hl, h⟩
  · simp
  · rw [← h] at this
    split at this
    · exact this
    · rw [List.length_append] at this; omega
theorem dig_cat {a : Nat} {l : List Nat} {k : Nat} {t : Tok} (hz : k = 48 + a % 10) : Value.str ((⟨#[k]⟩ : Str) ++ ⟨l.toArray⟩) t = .str ⟨((48 + a % 10) :: l).toArray⟩ t := by
  subst hz
  congr 1
  refine Str.ext' ?_
  rw [Str.cps_append]
  simp
theorem fdiv10 (a : Nat) : Int.fdiv (a : Int) 10 = ((a / 10 : Nat) : Int) := by
  rw [Int.fdiv_eq_ediv_of_nonneg _ (by decide)]; rfl
theorem fmod10 (a : Nat) : Int.fmod (a : Int) 10 = ((a % 10 : Nat) : Int) := by
  rw [Int.fmod_eq_emod_of_nonneg _ (by decide)]; rfl
theorem str_nil {l : List Nat} (h : ((⟨l.toArray⟩ : Str) == Str.ofString "") = true) : l = [] := by
  have := str_eq h
  simpa using this
theorem str_cons {l : List Nat} (h : ((⟨l.toArray⟩ : Str) == Str.ofString "") = false) : l ≠ [] := by
  obtain ⟨c, r, e⟩ := str_ne h
  have : l = c :: r := by simpa using e
  rw [this]
  exact List.cons_ne_nil _ _
theorem writeT_neg {n : Int} {l : List Nat} {t : Tok} (h : n < 0) (hl : l = decs n.natAbs) : ∃ t', Value.str (Str.ofString "-" ++ ⟨l.toArray⟩) t = .str (writeT n) t' := by
  refine ⟨t, ?_⟩
  unfold writeT
  rw [if_pos h, ← hl]
  congr 1
  refine Str.ext' ?_
  rw [Str.cps_append, show (Str.ofString "-").cps = #[45] from by decide +kernel]
  simp
theorem writeT_pos {n : Int} {l : List Nat} {t : Tok} (h : ¬ n < 0) (hl : l = decs n.natAbs) : ∃ t', Value.str ⟨l.toArray⟩ t = .str (writeT n) t' := by
  refine ⟨t, ?_⟩
  unfold writeT
  rw [if_neg h, ← hl]
theorem wmeas {k a x : Nat} {l : List Nat} (hk : k = a + (if l = [] then 1 else 0)) (h : 0 < a ∨ l = []) : a / 10 + (if x :: l = [] then 1 else 0) < k := by
  rw [hk, if_neg (List.cons_ne_nil _ _)]
  rcases h with h | h
  · split <;> omega
  · rw [if_pos h]; omega
theorem digit_at : ∀ k : Nat, k < 10 → Txt.item (Str.ofString "0123456789") (k : Int) = ⟨#[48 + k]⟩ := by decide +kernel
theorem item_cat {a : Nat} {l : List Nat} {t : Tok} : Value.str (Txt.item (Str.ofString "0123456789") (Int.fmod (a : Int) 10) ++ ⟨l.toArray⟩) t = .str ⟨((48 + a % 10) :: l).toArray⟩ t := by
  rw [fmod10, digit_at _ (Nat.mod_lt _ (by decide))]
  exact dig_cat rfl
theorem in_digits {c : Nat} : (Builtin.Str.occurrences (Str.ofString "0123456789") ⟨#[c]⟩ 0 (Str.ofString "0123456789").length 1).isEmpty = !isDig c := by
  have := StrLaws.found_one (Str.ofString "0123456789") c
  have e : (Str.ofString "0123456789").cps.toList = [48, 49, 50, 51, 52, 53, 54, 55, 56, 57] := by decide +kernel
  rw [e] at this
  rw [← Bool.not_not ((Builtin.Str.occurrences (Str.ofString "0123456789") ⟨#[c]⟩ 0 (Str.ofString "0123456789").length 1).isEmpty), this]
  congr 1
  by_cases hc : c < 58
  · exact (by decide +kernel : ∀ k : Fin 58, decide (k.val ∈ ([48, 49, 50, 51, 52, 53, 54, 55, 56, 57] : List Nat)) = isDig k.val) ⟨c, hc⟩
  · rw [show isDig c = false by unfold isDig; rw [decide_eq_false (fun h : c ≤ 57 => hc (Nat.lt_succ_of_le h)), Bool.and_false]]
    exact Bool.eq_false_iff.mpr fun h => hc ((by decide : ∀ x ∈ ([48, 49, 50, 51, 52, 53, 54, 55, 56, 57] : List Nat), x < 58) c (of_decide_eq_true h))
theorem keeps_refl {s : Shared} {tk : Nat} : Keeps s { s with toks := tk } := ⟨s.heap, tk, rfl, fun _ _ e => e⟩
theorem any_sign {x : Str} {c : Nat} {r : List Nat} (hl : x.cps.toList = c :: r) : ([Str.ofString "+", Str.ofString "-"].any fun y => y == Txt.slice x none (some 1)) = signed c := by
  have e : Txt.slice x none (some 1) = ⟨#[c]⟩ := by
    have h1 : x.length = r.length + 1 := by
      show x.cps.size = _
      rw [← Array.length_toList, hl]; rfl
    have := slice_closes_to (x := x) (j := 1) ⟨by decide, by rw [hl]; simp; omega⟩
    have h2 := eq_of_beq this
    rw [h2, hl]
    simp
  rw [e, show Str.ofString "+" = ⟨#[43]⟩ from by decide +kernel, show Str.ofString "-" = ⟨#[45]⟩ from by decide +kernel]
  simp only [List.any_cons, List.any_nil, Bool.or_false, one_eq]
  unfold signed
  rw [Bool.eq_iff_iff]
  simp
  constructor
  · rintro (h | h) <;> omega
  · rintro (h | h) <;> omega
theorem any_empty {x : Str} (hl : x.cps.toList = []) : ([Str.ofString "+", Str.ofString "-"].any fun y => y == Txt.slice x none (some 1)) = false := by
  obtain ⟨a⟩ := x
  have : a = #[] := Array.toList_inj.mp hl
  subst this
  decide +kernel
noncomputable def Dg (x ds : Str) : Prop := (ds = x ∧ ([Str.ofString "+", Str.ofString "-"].any fun y => y == Txt.slice x none (some 1)) = false) ∨ (ds = Txt.slice x (some 1) none ∧ ([Str.ofString "+", Str.ofString "-"].any fun y => y == Txt.slice x none (some 1)) = true)
theorem Dg.ds {x ds : Str} (h : Dg x ds) (hn : (x == Str.ofString "") = false) : Ds x ds := by
  obtain ⟨c, r, hl⟩ := str_ne hn
  refine ⟨c, r, hl, ?_⟩
  rcases h with ⟨rfl, h⟩ | ⟨rfl, h⟩
  · rw [any_sign hl] at h
    rw [h, if_neg Bool.false_ne_true]
    exact hl
  · rw [any_sign hl] at h
    rw [h, if_pos rfl, slice1 hl]
theorem Dg.sub {x ds : Str} (h : Dg x ds) : ∀ c ∈ ds.cps.toList, c ∈ x.cps.toList := by
  intro c hc
  rcases h with ⟨rfl, h⟩ | ⟨rfl, h⟩
  · exact hc
  · cases hl : x.cps.toList with
    | nil => rw [any_empty hl] at h; cases h
    | cons a r =>
      rw [slice1 hl] at hc
      exact List.mem_cons_of_mem _ (by simpa using hc)
theorem Dg.len {x ds : Str} (h : Dg x ds) : ds.length ≤ x.length := by
  rcases h with ⟨rfl, h⟩ | ⟨rfl, h⟩
  · exact Nat.le_refl _
  · exact PyProof.Txt.length_slice_le _ _ _
theorem all_of_empty {l : List Nat} (h : ((l.filter fun c => !isDig c).map fun c => (⟨#[c]⟩ : Str)).isEmpty = true) : l.all isDig = true := by
  rw [List.isEmpty_iff, List.map_eq_nil_iff, List.filter_eq_nil_iff] at h
  rw [List.all_eq_true]
  intro c hc
  have := h c hc
  simpa using this
theorem not_all_of {l : List Nat} (h : ((l.filter fun c => !isDig c).map fun c => (⟨#[c]⟩ : Str)).isEmpty = false) : l.all isDig = false := by
  cases q : l.all isDig with
  | false => rfl
  | true =>
    exfalso
    have e : (l.filter fun c => !isDig c) = [] := by
      rw [List.filter_eq_nil_iff]
      intro c hc
      have := List.all_eq_true.mp q c hc
      simp [this]
    rw [e] at h
    cases h
theorem dig_mem {l post : List Nat} {c : Nat} {x : List Nat} (h : x = l ++ c :: post) (ha : x.all isDig = true) : isDig c = true := by
  rw [h, List.all_append, List.all_cons] at ha
  simp at ha
  exact ha.2.1
theorem Ds.nall {x ds : Str} {wd : Int} (D : Ds x ds) (h : ds.cps.toList.all isDig = false) : readT x wd = none := by
  obtain ⟨c, _, e⟩ := D.eq (wd := wd)
  exact e.trans (if_pos (.inr (.inr h)))
theorem fitsB_in {n wd : Int} (h1 : 0 - 2 ^ (wd - 1).toNat ≤ n) (h2 : n ≤ 2 ^ (wd - 1).toNat - 1) : fitsB n wd = true := by
  unfold fitsB
  generalize (2 : Int) ^ (wd - 1).toNat = p at *
  simp
  omega
theorem fitsB_hi {n wd : Int} (h2 : ¬ n ≤ 2 ^ (wd - 1).toNat - 1) : fitsB n wd = false := by
  unfold fitsB
  generalize (2 : Int) ^ (wd - 1).toNat = p at *
  simp
  omega
theorem fitsB_lo {n wd : Int} (h2 : ¬ 0 - 2 ^ (wd - 1).toNat ≤ n) : fitsB n wd = false := by
  unfold fitsB
  generalize (2 : Int) ^ (wd - 1).toNat = p at *
  simp
  omega
theorem ex_someN {o : Option Int} {n : Int} {tk : Tok} (h : o = some (-n)) : ∃ t, Value.int (0 - n) tk = optV o t := ⟨tk, by rw [h, Int.zero_sub]; rfl⟩
theorem fitsB_neg {n wd : Int} {b : Bool} (h : fitsB (0 - n) wd = b) : fitsB (-n) wd = b := by rwa [Int.zero_sub] at h

end

section
noncomputable abbrev PR : Program := PySem.Challenge.rw_np0298_01.row.prog
noncomputable abbrev LS : List Str := looseW Vw [Str.ofString "SnobolError"] ++ List.map (fun x => x.name) (recsOf Vw) ++
        List.map (fun x => x.fst) (litsOf Vw) ++
      List.map (fun x => x.name) (clssOf Vw (looseW Vw [Str.ofString "SnobolError"]))

/-- What a contract says: from any caller's frame, at depth d. -/
noncomputable def Tells (w : World) (d u : Nat) (f : Addr) (vs : List Value) (pre : List (Addr × Obj) → Prop)
    (post : List (Addr × Obj) → Value → List (Addr × Obj) → Prop) : Prop :=
  ∀ (cn : Str) (sn : List (Str × NameKind)) (sg sc : Bool) (sm : _) (a : Addr) (ccd : Value) (cl : List (Str × Addr)) (outer : List Env) (A₀ : Around) (base h₀ : Heap) (L : Addr) (m : Str → Option Value)
    (news : List (Addr × Obj)) (s : Shared) (Q E : Value → Shared → Prop) (mean : ExcName → Option Value) (mg mb : Str → Option Value),
    Below A₀ base outer h₀ → Fr h₀ L s.heap m → (hd.heap_1 w.params).In h₀ → News h₀ L s.heap news → Top topProg LS mean mg mb h₀ →
    pre news →
    (∀ v news' h' tk', Fr h₀ L h' m → News h₀ L h' news' → post news v news' → Q v { s with heap := h', toks := tk' }) →
    wpAny (model PySem.Challenge.rw_np0298_01.row.prog w) (ktrTop d u none cn ⟨.function, sn, sg, sc, sm⟩ L a ccd cl outer) (call (.ref f) vs) Q E s
noncomputable abbrev ent (w : World) (x : String) (t : Tok) (v : Value) : DictEntry := ⟨PyData.keyHash w.params (Str.ofString x), .str (Str.ofString x) t, v⟩
inductive V where
  | int (n : Int) | str (x : Str) | pat (j : Int) | name (x : Str) | dly (j : Int) | node (j : Int)
noncomputable def V.kind : V → String
  | .int _ => "INTEGER" | .str _ => "STRING" | .pat _ => "PATTERN" | .name _ => "NAME" | .dly _ => "EXPRESSION" | .node _ => "NODE"
noncomputable abbrev tupO (l : List Value) (n : Nat) : Obj := ⟨.type "tuple", none, .seq l.toArray n, #[]⟩
noncomputable def Bears (w : World) (news : List (Addr × Obj)) : V → Value → Prop
  | .int n, v => ∃ t, v = .int n t
  | .str x, v => ∃ t, v = .str x t
  | .pat j, v => ∃ p d tp t1 t2 t3 c, v = .ref p ∧ (p, instObj 68 d) ∈ news ∧ (d, dictOf [ent w "node" t1 (.ref tp)] 1) ∈ news ∧ (tp, tupO [.str (Str.ofString "len") t2, .int j t3] c) ∈ news
  | .dly j, v => ∃ p d tp t1 t2 t3 c, v = .ref p ∧ (p, instObj 89 d) ∈ news ∧ (d, dictOf [ent w "tree" t1 (.ref tp)] 1) ∈ news ∧ (tp, tupO [.str (Str.ofString "whole") t2, .int j t3] c) ∈ news
  | .name x, v => ∃ p d t1 t2 t3 t4 t5, v = .ref p ∧ (p, instObj 131 d) ∈ news ∧ (d, dictOf [ent w "kind" t1 (.str (Str.ofString "var") t4), ent w "owner" t2 .none, ent w "key" t3 (.str x t5)] 3) ∈ news
  | .node j, v => ∃ p d t1 t2 t3 t4 t5 t6, v = .ref p ∧ (p, instObj 152 d) ∈ news ∧ (d, dictOf [ent w "word" t1 (.str (Str.ofString "NODE") t4), ent w "number" t2 (.int j t5), ent w "mark" t3 (.int 0 t6)] 3) ∈ news
/-- the locals behind a name: what they hold is told by a law on names -/
theorem fr_gen {g h : Heap} {L : Addr} {m : Str → Option Value} {G : Prop} (F : Fr g L h m) (k : ∀ m0 : Str → Option Value, (∀ y, m0 y = m y) → Fr g L h m0 → G) : G := k m (fun _ => rfl) F
/-- the goal behind a name, while what stands in an existential is opened (a motive then holds no copy of the goal) -/
theorem hideG {G : Prop} (h : ∀ H : Prop, (G → H) → H) : G := h G id
theorem use {w : World} {d u : Nat} {f : Addr} {vs : List Value} {pre : List (Addr × Obj) → Prop} {post : List (Addr × Obj) → Value → List (Addr × Obj) → Prop}
    (C : Tells w d u f vs pre post) {dp un : Nat} {gd : Option (List Code)} {cn : Str} {sn : List (Str × NameKind)} {sg sc : Bool} {sm : List (Str × Const)} {a : Addr} {ccd : Value} {cl : List (Str × Addr)} {outer : List Env} {A₀ : Around} {base h₀ : Heap} {L : Addr} {m : Str → Option Value}
    {news : List (Addr × Obj)} {s : Shared} {Q E : Value → Shared → Prop} {mean : ExcName → Option Value} {mg mb : Str → Option Value}
 (hp : pre news)
    (k : ∀ v news' h' tk', Fr h₀ L h' m → News h₀ L h' news' → post news v news' → Q v { s with heap := h', toks := tk' })
    (hdp : dp ≤ d := by k_units) (hu : un ≤ u := by k_units) (B : Below A₀ base outer h₀ := by k_asm) (F : Fr h₀ L s.heap m := by k_asm) (X : (hd.heap_1 w.params).In h₀ := by k_asm) (N : News h₀ L s.heap news := by k_asm) (T : Top topProg LS mean mg mb h₀ := by k_asm) :
    wpAny (model PySem.Challenge.rw_np0298_01.row.prog w) (ktrTop dp un gd cn ⟨.function, sn, sg, sc, sm⟩ L a ccd cl outer) (call (.ref f) vs) Q E s := by
  intro Γ p hΓ
  obtain ⟨g1, g2, g3, g4, g5⟩ := hΓ
  exact C cn sn sg sc sm a ccd cl outer A₀ base h₀ L m news s Q E mean mg mb B F X N T hp k Γ p ⟨g1, Nat.le_trans g2 hdp, g3, fun _ e => (by cases e), Nat.le_trans g5 hu⟩

theorem useT {w : World} {d u : Nat} {f : Addr} {vs : List Value} {pre : List (Addr × Obj) → Prop} {f9 : Tok → Value}
    (C : Tells w d u f vs pre (fun ns r ns' => (∃ t, r = f9 t) ∧ ns' = ns)) {dp un : Nat} {gd : Option (List Code)} {cn : Str} {sn : List (Str × NameKind)} {sg sc : Bool} {sm : List (Str × Const)} {a : Addr} {ccd : Value} {cl : List (Str × Addr)} {outer : List Env} {A₀ : Around} {base h₀ : Heap} {L : Addr} {m : Str → Option Value}
    {news : List (Addr × Obj)} {s : Shared} {Q E : Value → Shared → Prop} {mean : ExcName → Option Value} {mg mb : Str → Option Value}
 (hp : pre news)
    (k : ∀ t h' tk', Fr h₀ L h' m → News h₀ L h' news → Q (f9 t) { s with heap := h', toks := tk' })
    (hdp : dp ≤ d := by k_units) (hu : un ≤ u := by k_units) (B : Below A₀ base outer h₀ := by k_asm) (F : Fr h₀ L s.heap m := by k_asm) (X : (hd.heap_1 w.params).In h₀ := by k_asm) (N : News h₀ L s.heap news := by k_asm) (T : Top topProg LS mean mg mb h₀ := by k_asm) :
    wpAny (model PySem.Challenge.rw_np0298_01.row.prog w) (ktrTop dp un gd cn ⟨.function, sn, sg, sc, sm⟩ L a ccd cl outer) (call (.ref f) vs) Q E s :=
  use C hp (fun _ _ h' tk' F' N' p => by obtain ⟨⟨t, rfl⟩, rfl⟩ := p; exact k t h' tk' F' N') hdp hu B F X N T
theorem useE {w : World} {d u : Nat} {f : Addr} {vs : List Value} {pre : List (Addr × Obj) → Prop} {c9 : Value}
    (C : Tells w d u f vs pre (fun ns r ns' => r = c9 ∧ ns' = ns)) {dp un : Nat} {gd : Option (List Code)} {cn : Str} {sn : List (Str × NameKind)} {sg sc : Bool} {sm : List (Str × Const)} {a : Addr} {ccd : Value} {cl : List (Str × Addr)} {outer : List Env} {A₀ : Around} {base h₀ : Heap} {L : Addr} {m : Str → Option Value}
    {news : List (Addr × Obj)} {s : Shared} {Q E : Value → Shared → Prop} {mean : ExcName → Option Value} {mg mb : Str → Option Value}
 (hp : pre news)
    (k : ∀ h' tk', Fr h₀ L h' m → News h₀ L h' news → Q c9 { s with heap := h', toks := tk' })
    (hdp : dp ≤ d := by k_units) (hu : un ≤ u := by k_units) (B : Below A₀ base outer h₀ := by k_asm) (F : Fr h₀ L s.heap m := by k_asm) (X : (hd.heap_1 w.params).In h₀ := by k_asm) (N : News h₀ L s.heap news := by k_asm) (T : Top topProg LS mean mg mb h₀ := by k_asm) :
    wpAny (model PySem.Challenge.rw_np0298_01.row.prog w) (ktrTop dp un gd cn ⟨.function, sn, sg, sc, sm⟩ L a ccd cl outer) (call (.ref f) vs) Q E s :=
  use C hp (fun _ _ h' tk' F' N' p => by obtain ⟨rfl, rfl⟩ := p; exact k h' tk' F' N') hdp hu B F X N T
theorem useDr {w : World} {d u : Nat} {f : Addr} {vs : List Value} {pre : List (Addr × Obj) → Prop} {g9 : Int → Tok → Value} {A9 B9 : Int → Prop} {P9 R9 : List (Addr × Obj) → List (Addr × Obj) → Prop}
    (C : Tells w d u f vs pre (fun ns r ns' => (∃ f t, r = g9 f t ∧ A9 f ∧ B9 f) ∧ P9 ns ns' ∧ R9 ns ns')) {dp un : Nat} {gd : Option (List Code)} {cn : Str} {sn : List (Str × NameKind)} {sg sc : Bool} {sm : List (Str × Const)} {a : Addr} {ccd : Value} {cl : List (Str × Addr)} {outer : List Env} {A₀ : Around} {base h₀ : Heap} {L : Addr} {m : Str → Option Value}
    {news : List (Addr × Obj)} {s : Shared} {Q E : Value → Shared → Prop} {mean : ExcName → Option Value} {mg mb : Str → Option Value}
 (hp : pre news)
    (k : ∀ f t n' h' tk', A9 f → B9 f → Fr h₀ L h' m → News h₀ L h' n' → P9 news n' → R9 news n' → Q (g9 f t) { s with heap := h', toks := tk' })
    (hdp : dp ≤ d := by k_units) (hu : un ≤ u := by k_units) (B : Below A₀ base outer h₀ := by k_asm) (F : Fr h₀ L s.heap m := by k_asm) (X : (hd.heap_1 w.params).In h₀ := by k_asm) (N : News h₀ L s.heap news := by k_asm) (T : Top topProg LS mean mg mb h₀ := by k_asm) :
    wpAny (model PySem.Challenge.rw_np0298_01.row.prog w) (ktrTop dp un gd cn ⟨.function, sn, sg, sc, sm⟩ L a ccd cl outer) (call (.ref f) vs) Q E s :=
  use C hp (fun _ n' h' tk' F' N' p => by obtain ⟨⟨f, t, rfl, a, b⟩, p, q⟩ := p; exact k f t n' h' tk' a b F' N' p q) hdp hu B F X N T
theorem useM {w : World} {d u : Nat} {f : Addr} {vs : List Value} {pre : List (Addr × Obj) → Prop} {c9 : Value} {P9 : List (Addr × Obj) → List (Addr × Obj) → Prop}
    (C : Tells w d u f vs pre (fun ns r ns' => r = c9 ∧ P9 ns ns')) {dp un : Nat} {gd : Option (List Code)} {cn : Str} {sn : List (Str × NameKind)} {sg sc : Bool} {sm : List (Str × Const)} {a : Addr} {ccd : Value} {cl : List (Str × Addr)} {outer : List Env} {A₀ : Around} {base h₀ : Heap} {L : Addr} {m : Str → Option Value}
    {news : List (Addr × Obj)} {s : Shared} {Q E : Value → Shared → Prop} {mean : ExcName → Option Value} {mg mb : Str → Option Value}
 (hp : pre news)
    (k : ∀ n' h' tk', Fr h₀ L h' m → News h₀ L h' n' → P9 news n' → Q c9 { s with heap := h', toks := tk' })
    (hdp : dp ≤ d := by k_units) (hu : un ≤ u := by k_units) (B : Below A₀ base outer h₀ := by k_asm) (F : Fr h₀ L s.heap m := by k_asm) (X : (hd.heap_1 w.params).In h₀ := by k_asm) (N : News h₀ L s.heap news := by k_asm) (T : Top topProg LS mean mg mb h₀ := by k_asm) :
    wpAny (model PySem.Challenge.rw_np0298_01.row.prog w) (ktrTop dp un gd cn ⟨.function, sn, sg, sc, sm⟩ L a ccd cl outer) (call (.ref f) vs) Q E s :=
  use C hp (fun _ n' h' tk' F' N' p => by obtain ⟨rfl, p⟩ := p; exact k n' h' tk' F' N' p) hdp hu B F X N T
theorem useM2 {w : World} {d u : Nat} {f : Addr} {vs : List Value} {pre : List (Addr × Obj) → Prop} {c9 : Value} {P9 R9 : List (Addr × Obj) → List (Addr × Obj) → Prop}
    (C : Tells w d u f vs pre (fun ns r ns' => r = c9 ∧ P9 ns ns' ∧ R9 ns ns')) {dp un : Nat} {gd : Option (List Code)} {cn : Str} {sn : List (Str × NameKind)} {sg sc : Bool} {sm : List (Str × Const)} {a : Addr} {ccd : Value} {cl : List (Str × Addr)} {outer : List Env} {A₀ : Around} {base h₀ : Heap} {L : Addr} {m : Str → Option Value}
    {news : List (Addr × Obj)} {s : Shared} {Q E : Value → Shared → Prop} {mean : ExcName → Option Value} {mg mb : Str → Option Value}
 (hp : pre news)
    (k : ∀ n' h' tk', Fr h₀ L h' m → News h₀ L h' n' → P9 news n' → R9 news n' → Q c9 { s with heap := h', toks := tk' })
    (hdp : dp ≤ d := by k_units) (hu : un ≤ u := by k_units) (B : Below A₀ base outer h₀ := by k_asm) (F : Fr h₀ L s.heap m := by k_asm) (X : (hd.heap_1 w.params).In h₀ := by k_asm) (N : News h₀ L s.heap news := by k_asm) (T : Top topProg LS mean mg mb h₀ := by k_asm) :
    wpAny (model PySem.Challenge.rw_np0298_01.row.prog w) (ktrTop dp un gd cn ⟨.function, sn, sg, sc, sm⟩ L a ccd cl outer) (call (.ref f) vs) Q E s :=
  use C hp (fun _ n' h' tk' F' N' p => by obtain ⟨rfl, p, q⟩ := p; exact k n' h' tk' F' N' p q) hdp hu B F X N T
theorem useTM {w : World} {d u : Nat} {f : Addr} {vs : List Value} {pre : List (Addr × Obj) → Prop} {f9 : Tok → Value} {P9 : List (Addr × Obj) → List (Addr × Obj) → Prop}
    (C : Tells w d u f vs pre (fun ns r ns' => (∃ t, r = f9 t) ∧ P9 ns ns')) {dp un : Nat} {gd : Option (List Code)} {cn : Str} {sn : List (Str × NameKind)} {sg sc : Bool} {sm : List (Str × Const)} {a : Addr} {ccd : Value} {cl : List (Str × Addr)} {outer : List Env} {A₀ : Around} {base h₀ : Heap} {L : Addr} {m : Str → Option Value}
    {news : List (Addr × Obj)} {s : Shared} {Q E : Value → Shared → Prop} {mean : ExcName → Option Value} {mg mb : Str → Option Value}
 (hp : pre news)
    (k : ∀ t n' h' tk', Fr h₀ L h' m → News h₀ L h' n' → P9 news n' → Q (f9 t) { s with heap := h', toks := tk' })
    (hdp : dp ≤ d := by k_units) (hu : un ≤ u := by k_units) (B : Below A₀ base outer h₀ := by k_asm) (F : Fr h₀ L s.heap m := by k_asm) (X : (hd.heap_1 w.params).In h₀ := by k_asm) (N : News h₀ L s.heap news := by k_asm) (T : Top topProg LS mean mg mb h₀ := by k_asm) :
    wpAny (model PySem.Challenge.rw_np0298_01.row.prog w) (ktrTop dp un gd cn ⟨.function, sn, sg, sc, sm⟩ L a ccd cl outer) (call (.ref f) vs) Q E s :=
  use C hp (fun _ n' h' tk' F' N' p => by obtain ⟨⟨t, rfl⟩, p⟩ := p; exact k t n' h' tk' F' N' p) hdp hu B F X N T
theorem nleft {h₀ h : Heap} {L : Addr} {a b : List (Addr × Obj)} (N : News h₀ L h (a ++ b)) : News h₀ L h a := fun p hp => N p (List.mem_append_left _ hp)
theorem nright {h₀ h : Heap} {L : Addr} {a b : List (Addr × Obj)} (N : News h₀ L h (a ++ b)) : News h₀ L h b := fun p hp => N p (List.mem_append_right _ hp)
theorem ncons {h₀ h : Heap} {L : Addr} {a : Addr × Obj} {b : List (Addr × Obj)} (N : News h₀ L h (a :: b)) : News h₀ L h b := fun p hp => N p (.tail _ hp)
theorem nsub {h₀ h : Heap} {L : Addr} {a b : List (Addr × Obj)} (N : News h₀ L h a) (hs : ∀ p ∈ b, p ∈ a) : News h₀ L h b := fun p hp => N p (hs p hp)
noncomputable def V.plain : V → Bool | .int _ => true | .str _ => true | _ => false
/-- the sizes that every value of the law keeps -/
noncomputable def V.ok : V → Prop | .int n => n.natAbs < 10 ^ 13 | .str x => x.length ≤ 100 ∧ ∀ c ∈ x.cps.toList, c < 128 | .name x => x.length ≤ 100 ∧ ∀ c ∈ x.cps.toList, c < 128 | _ => True
noncomputable def V.whole (wd : Int) : V → Option Int | .int n => some n | .str x => readT x wd | _ => none
noncomputable def V.text : V → Option Str | .int n => some (writeT n) | .str x => some x | _ => none
noncomputable def optS : Option Str → Tok → Value
  | some n, t => .str n t
  | none, _ => .none
theorem exs_some {o : Option Str} {n : Str} {tk : Tok} (h : o = some n) : ∃ t, Value.str n tk = optS o t := ⟨tk, by rw [h]; rfl⟩
theorem exs_none {o : Option Str} (h : o = none) : ∃ t, Value.none = optS o t := ⟨0, by rw [h]; rfl⟩
noncomputable def V.isC (C : Nat) : V → Bool | .pat _ => C == 68 | .dly _ => C == 89 | .name _ => C == 131 | .node _ => C == 152 | _ => false
noncomputable def V.isS : V → Bool | .str _ => true | _ => false
noncomputable def V.isI : V → Bool | .int _ => true | _ => false
theorem V.kS {v : V} {t : Tok} (h : v.isS = true) : ∃ t', Value.str (Str.ofString "STRING") t = .str (Str.ofString v.kind) t' := ⟨t, by cases v <;> first | rfl | cases h⟩
theorem V.kI {v : V} {t : Tok} (h : v.isI = true) : ∃ t', Value.str (Str.ofString "INTEGER") t = .str (Str.ofString v.kind) t' := ⟨t, by cases v <;> first | rfl | cases h⟩
theorem V.kP {v : V} {t : Tok} (h : V.isC 68 v = true) : ∃ t', Value.str (Str.ofString "PATTERN") t = .str (Str.ofString v.kind) t' := ⟨t, by cases v <;> first | rfl | cases h⟩
theorem V.kN {v : V} {t : Tok} (h : V.isC 131 v = true) : ∃ t', Value.str (Str.ofString "NAME") t = .str (Str.ofString v.kind) t' := ⟨t, by cases v <;> first | rfl | cases h⟩
theorem V.kE {v : V} {t : Tok} (h : V.isC 89 v = true) : ∃ t', Value.str (Str.ofString "EXPRESSION") t = .str (Str.ofString v.kind) t' := ⟨t, by cases v <;> first | rfl | cases h⟩
theorem V.noCode {v : V} (h : V.isC 110 v = true) : False := by cases v <;> cases h
theorem V.some {v : V} (h1 : v.isS = false) (h2 : v.isI = false) (h3 : V.isC 68 v = false) (h4 : V.isC 152 v = false) (h5 : V.isC 131 v = false) (h6 : V.isC 89 v = false) : False := by
  cases v
  · cases h2
  · cases h1
  · cases h3
  · cases h5
  · cases h6
  · cases h4
theorem V.toInt {v : V} (h : v.isI = true) : ∃ n, v = .int n := by cases v <;> first | exact ⟨_, rfl⟩ | cases h
theorem V.toStr {v : V} (h : v.isS = true) : ∃ n, v = .str n := by cases v <;> first | exact ⟨_, rfl⟩ | cases h
theorem V.toPat {v : V} (h : V.isC 68 v = true) : ∃ n, v = .pat n := by cases v <;> first | exact ⟨_, rfl⟩ | cases h
theorem V.toDly {v : V} (h : V.isC 89 v = true) : ∃ n, v = .dly n := by cases v <;> first | exact ⟨_, rfl⟩ | cases h
theorem V.toName {v : V} (h : V.isC 131 v = true) : ∃ n, v = .name n := by cases v <;> first | exact ⟨_, rfl⟩ | cases h
theorem V.toNode {v : V} (h : V.isC 152 v = true) : ∃ n, v = .node n := by cases v <;> first | exact ⟨_, rfl⟩ | cases h
section
variable {w : World} {ns : List (Addr × Obj)} {v : V} {val : Value} {G : Prop}
theorem Bears.inst {C : Nat} (hb : Bears w ns v val) (hv : V.isC C v = true) (k : ∀ p d es n, val = .ref p → (p, instObj C d) ∈ ns → (d, dictOf es n) ∈ ns → G) : G := by
  cases v with
  | int n => cases hv
  | str n => cases hv
  | pat j => obtain ⟨p, d, tp, t1, t2, t3, c, e, hp, hd, -⟩ := hb; exact k p d _ _ e (by rw [eq_of_beq hv]; exact hp) hd
  | dly j => obtain ⟨p, d, tp, t1, t2, t3, c, e, hp, hd, -⟩ := hb; exact k p d _ _ e (by rw [eq_of_beq hv]; exact hp) hd
  | name j => obtain ⟨p, d, t1, t2, t3, t4, t5, e, hp, hd⟩ := hb; exact k p d _ _ e (by rw [eq_of_beq hv]; exact hp) hd
  | node j => obtain ⟨p, d, t1, t2, t3, t4, t5, t6, e, hp, hd⟩ := hb; exact k p d _ _ e (by rw [eq_of_beq hv]; exact hp) hd
theorem Bears.opInt (hb : Bears w ns v val) (hv : v.isI = true) (k : ∀ n t, v = .int n → val = .int n t → G) : G := by
  obtain ⟨n, rfl⟩ := V.toInt hv
  obtain ⟨t, rfl⟩ := hb
  exact k n t rfl rfl
theorem Bears.opStr (hb : Bears w ns v val) (hv : v.isS = true) (k : ∀ n t, v = .str n → val = .str n t → G) : G := by
  obtain ⟨n, rfl⟩ := V.toStr hv
  obtain ⟨t, rfl⟩ := hb
  exact k n t rfl rfl
theorem Bears.opPat (hb : Bears w ns v val) (hv : V.isC 68 v = true) (k : ∀ j p d tp t1 t2 t3 c, v = .pat j → val = .ref p → (p, instObj 68 d) ∈ ns → (d, dictOf [ent w "node" t1 (.ref tp)] 1) ∈ ns → (tp, tupO [.str (Str.ofString "len") t2, .int j t3] c) ∈ ns → G) : G := by
  obtain ⟨n, rfl⟩ := V.toPat hv
  obtain ⟨p, d, tp, t1, t2, t3, c, rfl, a, b, e⟩ := hb
  exact k n p d tp t1 t2 t3 c rfl rfl a b e
theorem Bears.opDly (hb : Bears w ns v val) (hv : V.isC 89 v = true) (k : ∀ j p d tp t1 t2 t3 c, v = .dly j → val = .ref p → (p, instObj 89 d) ∈ ns → (d, dictOf [ent w "tree" t1 (.ref tp)] 1) ∈ ns → (tp, tupO [.str (Str.ofString "whole") t2, .int j t3] c) ∈ ns → G) : G := by
  obtain ⟨n, rfl⟩ := V.toDly hv
  obtain ⟨p, d, tp, t1, t2, t3, c, rfl, a, b, e⟩ := hb
  exact k n p d tp t1 t2 t3 c rfl rfl a b e
theorem Bears.opName (hb : Bears w ns v val) (hv : V.isC 131 v = true) (k : ∀ x p d t1 t2 t3 t4 t5, v = .name x → val = .ref p → (p, instObj 131 d) ∈ ns → (d, dictOf [ent w "kind" t1 (.str (Str.ofString "var") t4), ent w "owner" t2 .none, ent w "key" t3 (.str x t5)] 3) ∈ ns → G) : G := by
  obtain ⟨n, rfl⟩ := V.toName hv
  obtain ⟨p, d, t1, t2, t3, t4, t5, rfl, a, b⟩ := hb
  exact k n p d t1 t2 t3 t4 t5 rfl rfl a b
theorem Bears.opNode (hb : Bears w ns v val) (hv : V.isC 152 v = true) (k : ∀ j p d t1 t2 t3 t4 t5 t6, v = .node j → val = .ref p → (p, instObj 152 d) ∈ ns → (d, dictOf [ent w "word" t1 (.str (Str.ofString "NODE") t4), ent w "number" t2 (.int j t5), ent w "mark" t3 (.int 0 t6)] 3) ∈ ns → G) : G := by
  obtain ⟨n, rfl⟩ := V.toNode hv
  obtain ⟨p, d, t1, t2, t3, t4, t5, t6, rfl, a, b⟩ := hb
  exact k n p d t1 t2 t3 t4 t5 t6 rfl rfl a b
end
theorem V.wholeN {v : V} {wd : Int} (h1 : v.isS = false) (h2 : v.isI = false) : v.whole wd = none := by cases v <;> first | rfl | (cases h1; done) | (cases h2; done)
theorem V.textN {v : V} (h1 : v.isS = false) (h2 : v.isI = false) : v.text = none := by cases v <;> first | rfl | (cases h1; done) | (cases h2; done)

end

section
section
variable {prog : Program} {w : World} {A : Around} {E : Value → Shared → Prop} {s : Shared} {env : Env} {h₀ : Heap} {x : Str} {body : List Stmt} {Q : Flow → Shared → Prop}

noncomputable def TurnJ (h₀ : Heap) (L : Addr) (wr : List Addr) (own : List (Addr × Obj)) (J : (Str → Option Value) → List (Addr × Obj) → Prop) (s₁ : Shared) (Q : Flow → Shared → Prop) (f : Flow) (s₂ : Shared) : Prop :=
  match f with
  | .ret v => Q (.ret v) s₂
  | .brk => Q .next s₂
  | _ => ∃ h' tk m' nx, s₂ = { s₁ with heap := h', toks := tk } ∧ Fr h₀ L h' m' ∧ News h₀ L h' (nx ++ own) ∧ (∀ p ∈ nx, p.1 ∉ wr) ∧ J m' nx

theorem loopJ {I : Addr} {fp wr : List Addr} {n : Nat} {P : Nat → Value → Prop} {St : Nat → Heap → Prop} {m₀ : Str → Option Value} {news : List (Addr × Obj)} (J : Nat → (Str → Option Value) → List (Addr × Obj) → Prop)
    (W : Walks prog w A I fp wr n P St) (hLf : env.locals ∉ fp) (hwr : ∀ b ∈ wr, h₀.get? b = none) (hnw : ∀ p ∈ news, p.1 ∉ wr) (hst : St 0 s.heap) (F : Fr h₀ env.locals s.heap m₀) (N : News h₀ env.locals s.heap news) (hj : J 0 m₀ news)
    (turn : ∀ i v m₁ news₁ h tk own, i < n → P i v → (∀ p ∈ news₁, p.1 ∉ wr) → (∀ p ∈ own, p.1 ∈ fp) → (∀ b ∈ fp, h₀.get? b = none → ∀ o, h.get? b = some o → (b, o) ∈ own) → J i m₁ news₁ → Fr h₀ env.locals h (fun y => if y = x then some v else m₁ y) → News h₀ env.locals h (news₁ ++ own) →
      wpAny (model prog w) A (execs body env) (TurnJ h₀ env.locals wr own (J (i + 1)) { s with heap := h, toks := tk } Q) E { s with heap := h, toks := tk })
    (done : ∀ m₁ news₁ h tk, (∀ p ∈ news₁, p.1 ∉ wr) → J n m₁ news₁ → Fr h₀ env.locals h m₁ → News h₀ env.locals h news₁ → Q .next { s with heap := h, toks := tk }) :
    LoopAtV prog w A h₀ env x body Q E (.ref I) s := by
  refine ⟨I, fp, wr, n, P, St, m₀, news, J, rfl, W, hLf, hwr, hnw, hst, F, N, hj, ?_, ?_⟩
  · rintro i v m₁ news₁ s₁ own ⟨hh', tk', rfl⟩ hin hP hJ hoff hown _ hall _ F₁ N₁
    have N₂ : News h₀ env.locals hh' (news₁ ++ own) := fun p hp => N₁ p ((List.mem_append.mp hp).elim (fun h => List.mem_append.mpr (.inr h)) fun h => List.mem_append.mpr (.inl h))
    refine wpAny_mono (turn i v m₁ news₁ hh' tk' own hin hP hoff hown hall hJ F₁ N₂) (fun f s₂ p => ?_) fun _ _ e => e
    have fin : (∃ h' tk m' nx, s₂ = { ({ s with heap := hh', toks := tk' } : Shared) with heap := h', toks := tk } ∧ Fr h₀ env.locals h' m' ∧ News h₀ env.locals h' (nx ++ own) ∧ (∀ p ∈ nx, p.1 ∉ wr) ∧ J (i + 1) m' nx) → LoopStepU h₀ env.locals wr own (J (i + 1)) { s with heap := hh', toks := tk' } .next s₂ := by
      rintro ⟨h', tk, m', nx, e, F', N', hn, hm⟩
      exact ⟨rfl, h', tk, m', nx, e, F', fun p hp => N' p ((List.mem_append.mp hp).elim (fun h => List.mem_append.mpr (.inr h)) fun h => List.mem_append.mpr (.inl h)), hn, hm⟩
    cases f with
    | ret v => exact .ret p
    | brk => exact .brk p
    | next => exact .next (fin p)
    | cont => exact .cont (fin p)
  · exact fun h' tk m' news' F' N' hn hJ => done m' news' h' tk hn hJ F' N'

/-- a for over a text whose turns leave the ledger alone -/
theorem iterT {xt : Str} {tx : Tok} {m₀ : Str → Option Value} {news : List (Addr × Obj)} (J : Nat → (Str → Option Value) → Prop)
    (hh : A.handled = none) (F : Fr h₀ env.locals s.heap m₀) (N : News h₀ env.locals s.heap news) (hj : J 0 m₀)
    (turn : ∀ i c t m₁ h tk own, xt.cps[i]? = some c → J i m₁ → Fr h₀ env.locals h (fun y => if y = x then some (.str ⟨#[c]⟩ t) else m₁ y) → News h₀ env.locals h (news ++ own) →
      wpAny (model prog w) A (execs body env) (fun f s₂ => match f with
        | .ret v => Q (.ret v) s₂
        | .brk => Q .next s₂
        | _ => ∃ h' tk' m', s₂ = { s with heap := h', toks := tk' } ∧ Fr h₀ env.locals h' m' ∧ News h₀ env.locals h' (news ++ own) ∧ J (i + 1) m') E { s with heap := h, toks := tk })
    (done : ∀ m₁ h tk, J xt.cps.size m₁ → Fr h₀ env.locals h m₁ → News h₀ env.locals h news → Q .next { s with heap := h, toks := tk }) :
    wpAny (model prog w) A (pyIter (.str xt tx)) (fun it s₂ => LoopAtV prog w A h₀ env x body Q E it s₂) E s := by
  refine wpAny_pyIter_str fun o St hW hst => ?_
  refine loopJ (fun i m nx => nx = news ∧ J i m) (hW A hh) ?_ ?_ ?_ hst (F.push _) (fun p hp => ⟨Heap.get?_push_of_some _ (N p hp).1, (N p hp).2⟩) ⟨rfl, hj⟩ ?_ ?_
  · intro hm
    exact absurd F.ns.lt ((List.mem_singleton.mp hm) ▸ Nat.lt_irrefl _)
  · intro b' hb
    rw [List.mem_singleton.mp hb]
    exact next_is_new F
  · intro p hp hI
    exact absurd (Heap.lt_size (N p hp).1) ((List.mem_singleton.mp hI) ▸ Nat.lt_irrefl _)
  · rintro i v m₁ nx h tk own hi ⟨c, u, hc, rfl⟩ hn _ _ ⟨rfl, hJ⟩ F₁ N₁
    refine wpAny_mono (turn i c u m₁ h tk own hc hJ F₁ N₁) (fun f s₂ p => ?_) fun _ _ e => e
    cases f with
    | ret v => exact p
    | brk => exact p
    | next => obtain ⟨h', tk', m', e, F', N', hJ'⟩ := p; exact ⟨h', tk', m', nx, e, F', N', hn, rfl, hJ'⟩
    | cont => obtain ⟨h', tk', m', e, F', N', hJ'⟩ := p; exact ⟨h', tk', m', nx, e, F', N', hn, rfl, hJ'⟩
  · rintro m₁ nx h tk _ ⟨rfl, hJ⟩ F₁ N₁
    exact done m₁ h tk hJ F₁ N₁
end
noncomputable def J1 (m₀ : Str → Option Value) (x a : Str) (R : Nat → Value → Prop) (i : Nat) (m : Str → Option Value) : Prop :=
  ∃ v, m a = some v ∧ (∀ y, y ≠ x → y ≠ a → m y = m₀ y) ∧ R i v
theorem J1.norm {m₀ m₁ : Str → Option Value} {x a : Str} {v : Value} {sv : Option Value} (h1 : m₁ a = some v) (h2 : ∀ y, y ≠ x → y ≠ a → m₁ y = m₀ y) :
    (fun y => if y = x then sv else m₁ y) = fun y => if y = x then sv else if y = a then some v else m₀ y := by
  funext y
  by_cases hx : y = x
  · simp [hx]
  · by_cases ha : y = a
    · simp [ha, h1]
    · simp [hx, ha, h2 y hx ha]
theorem J1.init {m₀ : Str → Option Value} {x a : Str} {R : Nat → Value → Prop} {v : Value} (h1 : m₀ a = some v) (h : R 0 v) : J1 m₀ x a R 0 m₀ := ⟨v, h1, fun _ _ _ => rfl, h⟩
section
variable {prog : Program} {w : World} {A : Around} {E : Value → Shared → Prop} {s : Shared} {env : Env} {h₀ : Heap} {x : Str} {body : List Stmt} {Q : Flow → Shared → Prop}
noncomputable def TurnT1 (h₀ : Heap) (L : Addr) (m₀ : Str → Option Value) (nx : List (Addr × Obj)) (x a : Str) (R : Value → Prop) (s : Shared) (Q : Flow → Shared → Prop) (f : Flow) (s₂ : Shared) : Prop :=
  match f with
  | .ret v => Q (.ret v) s₂
  | .brk => Q .next s₂
  | _ => ∃ h' tk' m' v', s₂ = { s with heap := h', toks := tk' } ∧ Fr h₀ L h' m' ∧ News h₀ L h' nx ∧ m' a = some v' ∧ (∀ y, y ≠ x → y ≠ a → m' y = m₀ y) ∧ R v'
theorem iterT1 {xt : Str} {tx : Tok} {m₀ : Str → Option Value} {news : List (Addr × Obj)} {v₀ : Value} (a : Str) (R : List Nat → Value → Prop)
    (hh : A.handled = none) (F : Fr h₀ env.locals s.heap m₀) (N : News h₀ env.locals s.heap news) (hv : m₀ a = some v₀) (h0 : R [] v₀)
    (turn : ∀ l c post t v h tk own, xt.cps.toList = l ++ c :: post → R l v → Fr h₀ env.locals h (fun y => if y = x then some (.str ⟨#[c]⟩ t) else if y = a then some v else m₀ y) → News h₀ env.locals h (news ++ own) →
      wpAny (model prog w) A (execs body env) (TurnT1 h₀ env.locals m₀ (news ++ own) x a (R (l ++ [c])) s Q) E { s with heap := h, toks := tk })
    (done : ∀ v u h tk, R xt.cps.toList v → Fr h₀ env.locals h (fun y => if y = x then u else if y = a then some v else m₀ y) → News h₀ env.locals h news → Q .next { s with heap := h, toks := tk }) :
    wpAny (model prog w) A (pyIter (.str xt tx)) (fun it s₂ => LoopAtV prog w A h₀ env x body Q E it s₂) E s := by
  refine iterT (J1 m₀ x a fun i v => R (xt.cps.toList.take i) v) hh F N (.init hv h0) ?_ ?_
  · rintro i c t m₁ h tk own hc ⟨v, q1, q2, hr⟩ F₁ N₁
    rw [J1.norm q1 q2] at F₁
    have hc' : xt.cps.toList[i]? = some c := by rw [Array.getElem?_toList]; exact hc
    have hs : xt.cps.toList.take (i + 1) = xt.cps.toList.take i ++ [c] := by simp [List.take_add_one, hc]
    have e : xt.cps.toList = xt.cps.toList.take i ++ c :: xt.cps.toList.drop (i + 1) := by
      have ht := List.take_append_drop (i + 1) xt.cps.toList
      rw [hs, List.append_assoc] at ht
      exact ht.symm
    refine wpAny_mono (turn _ c _ t v h tk own e hr F₁ N₁) (fun f s₂ p => ?_) fun _ _ e => e
    cases f with
    | ret v => exact p
    | brk => exact p
    | next => obtain ⟨h', tk', m', v', e, F', N', e1, e2, e3⟩ := p; exact ⟨h', tk', m', e, F', N', v', e1, e2, by show R _ _; rw [hs]; exact e3⟩
    | cont => obtain ⟨h', tk', m', v', e, F', N', e1, e2, e3⟩ := p; exact ⟨h', tk', m', e, F', N', v', e1, e2, by show R _ _; rw [hs]; exact e3⟩
  · rintro m₁ h tk ⟨v, q1, q2, hr⟩ F₁ N₁
    rw [← Array.length_toList, List.take_length] at hr
    refine done v (m₁ x) h tk hr ?_ N₁
    have e := J1.norm (sv := m₁ x) q1 q2
    rw [← e]
    have e2 : (fun y => if y = x then m₁ x else m₁ y) = m₁ := by
      funext y
      by_cases hy : y = x
      · simp [hy]
      · simp [hy]
    rw [e2]
    exact F₁
end
section
variable {prog : Program} {w : World} {A : Around} {E : Value → Shared → Prop} {s : Shared} {env : Env} {h₀ : Heap} {L : Addr} {Q : Flow → Shared → Prop}
noncomputable def TurnW (h₀ : Heap) (L : Addr) (m₀ : Str → Option Value) (news : List (Addr × Obj)) (a b : Str) (R : Nat → Value → Value → Prop) (n : Nat) (s : Shared) (Q : Flow → Shared → Prop) (f : Flow) (s₂ : Shared) : Prop :=
  match f with
  | .ret v => Q (.ret v) s₂
  | .brk => Q .next s₂
  | _ => ∃ h' tk' m' v1 v2 n', s₂ = { s with heap := h', toks := tk' } ∧ Fr h₀ L h' m' ∧ News h₀ L h' news ∧ m' a = some v1 ∧ m' b = some v2 ∧ (∀ y, y ≠ a → y ≠ b → m' y = m₀ y) ∧ n' < n ∧ R n' v1 v2
theorem while2 {test : Expr} {body : List Stmt} {pos : Pos} {m₀ : Str → Option Value} {news : List (Addr × Obj)} {v1 v2 : Value} {n₀ : Nat} (a b : Str) (R : Nat → Value → Value → Prop)
    (F : Fr h₀ L s.heap m₀) (N : News h₀ L s.heap news) (h1 : m₀ a = some v1) (h2 : m₀ b = some v2) (hR : R n₀ v1 v2)
    (turn : ∀ n v1 v2 h tk, R n v1 v2 → Fr h₀ L h (fun y => if y = a then some v1 else if y = b then some v2 else m₀ y) → News h₀ L h news →
      wpAny (model prog w) A (isTrue test env (eval test env)) (fun c s₂ =>
        if c = true then wpAny (model prog w) A (execs body env) (TurnW h₀ L m₀ news a b R n s Q) E s₂ else Q .next s₂) E { s with heap := h, toks := tk })
    (hE : PassesOwn (model prog w) A env E := by passes_own) :
    wpAny (model prog w) A (exec (.While test body [] pos) env) Q E s := by
  refine While_inv2 (fun n m nx => nx = news ∧ ∃ v1 v2, m a = some v1 ∧ m b = some v2 ∧ (∀ y, y ≠ a → y ≠ b → m y = m₀ y) ∧ R n v1 v2) (n₀ := n₀) F N ⟨rfl, v1, v2, h1, h2, fun _ _ _ => rfl, hR⟩ ?_ hE
  rintro n m₁ nx h tk F₁ N₁ ⟨rfl, v1, v2, q1, q2, q3, hR⟩
  have e : m₁ = fun y => if y = a then some v1 else if y = b then some v2 else m₀ y := by
    funext y
    by_cases ha : y = a
    · simp [ha, q1]
    · by_cases hb : y = b
      · simp only [if_neg ha, if_pos hb]; rw [hb, q2]
      · simp [ha, hb, q3 y ha hb]
  rw [e] at F₁
  refine wpAny_mono (turn n v1 v2 h tk hR F₁ N₁) (fun c s₂ p => ?_) fun _ _ x => x
  cases c with
  | false => exact p
  | true =>
    simp only [if_true] at p ⊢
    refine wpAny_mono p (fun f s₃ q => ?_) fun _ _ x => x
    cases f with
    | ret v => exact q
    | brk => exact q
    | next => obtain ⟨h', tk', m', w1, w2, n', e, F', N', e1, e2, e3, hn, r⟩ := q; exact ⟨h', tk', m', _, n', e, F', N', hn, rfl, w1, w2, e1, e2, e3, r⟩
    | cont => obtain ⟨h', tk', m', w1, w2, n', e, F', N', e1, e2, e3, hn, r⟩ := q; exact ⟨h', tk', m', _, n', e, F', N', hn, rfl, w1, w2, e1, e2, e3, r⟩
end

noncomputable def CutPost (h₀ : Heap) (L : Addr) (m : Str → Option Value) (news : List (Addr × Obj)) (s : Shared) (x : Str) (P : Value → Prop) (f : Flow) (s' : Shared) : Prop :=
  f = .next ∧ ∃ h' tk v news', s' = { s with heap := h', toks := tk } ∧ Fr h₀ L h' (fun y => if y = x then some v else m y) ∧ News h₀ L h' news' ∧ (∀ p ∈ news, p ∈ news') ∧ P v
theorem CutPost.intro {h₀ : Heap} {L : Addr} {m : Str → Option Value} {news news' : List (Addr × Obj)} {s : Shared} {x : Str} {P : Value → Prop} {h' : Heap} {tk : Nat} {v : Value}
    (F : Fr h₀ L h' (fun y => if y = x then some v else m y)) (N : News h₀ L h' news') (hs : ∀ p ∈ news, p ∈ news') (hp : P v) : CutPost h₀ L m news s x P .next { s with heap := h', toks := tk } := ⟨rfl, h', tk, v, news', rfl, F, N, hs, hp⟩
theorem cut_name {M : Model} {A : Around} {E : Value → Shared → Prop} {s : Shared} {h₀ : Heap} {L : Addr} {m : Str → Option Value} {news : List (Addr × Obj)} {t : Sem Flow} {Q : Flow → Shared → Prop} (x : Str) (P : Value → Prop) (F : Fr h₀ L s.heap m) (N : News h₀ L s.heap news)
    (h : wpAny M A t (CutPost h₀ L m news s x P) E s)
    (k : ∀ h' tk v, Fr h₀ L h' (fun y => if y = x then some v else m y) → News h₀ L h' news → P v → Q .next { s with heap := h', toks := tk }) : wpAny M A t Q E s := by
  refine wpAny_mono h (fun f s' q => ?_) fun _ _ e => e
  obtain ⟨rfl, h', tk, v, news', rfl, F', N', hs, hp⟩ := q
  exact k h' tk v F' (nsub N' hs) hp

end

local macro_rules | `(tactic| walk_at "my step") => do `(tactic| first | (k_unfold; (try dsimp only)) | $(← genR):tactic | dsimp only | (k_end; wrow_close) | walk1 | (leave1; walk_say "STEP leave1"; try dsimp only) | fail "no step")
local macro_rules | `(tactic| k_steps) => steps [] ["pyIter _", "exec Stmt.While:4 _"]
local macro_rules | `(tactic| walk_at "exec For Name Name cons nil") => forR "For_invVF" "$ab?" "arbr"
local macro_rules | `(tactic| walk_at "exec For Name Call cons nil") => forR "For_invVF" "$ab?" "arbr"
local macro_rules | `(tactic| walk_at "exec For Name Subscript cons nil") => forR "For_invVF" "$ab?" "arbr"
local macro_rules | `(tactic| walk_at "eval Name") => do `(tactic| (k_here; k_dflt (first
  | (name_kind "local"; $(← rfw "nameX_L" "Fv?ab" "brarFavL"):tactic)
  | (name_kind "globalImplicit"; first
    | (name_is_builtin; $(← rfw "nameX_B" "FXTevn?ab" "brarFaXaTaeivfnd"):tactic)
    | $(← rfw "nameX_K" "FXTe?ab" "brarFaXaTaei"):tactic))))
local macro_rules | `(tactic| walk_at "ite") => do wrR (← firstR [← rf "ite_tt" "?" "", ← rf "ite_ff" "?" ""])
local macro_rules | `(tactic| walk_at "call builtin:isinstance") => do dfltR (← rfw "isi_call" "abcd?" "anbycide")
local macro_rules | `(tactic| k_mem) => do firstR [wordT "PySem.W.tacticKtr_member" "ktr_member", ← rf "List.mem_cons_self" "" "", ← sq (← rf "List.mem_cons_of_mem" "_?" "") [wordK "mem"]]
local macro_rules | `(tactic| walk_at "binaryOp Pow int int") => do sq (wordK "here") [← rf "pow_int_small" "xyz?" "xoyozd"]
local macro_rules | `(tactic| walk_at "binaryOp LShift int int") => do sq (wordK "here") [← rf "lshift_int_small" "xyz?" "xoyozd"]
local macro_rules | `(tactic| walk_at "callWith ref") => do dfltR (← firstR [← rfw "callWith_K" "ab?" "aabi", ← rfw "callWith_K0" "ab?" "anbi"])
local macro_rules | `(tactic| walk_at "my mem") => do upR (← rf "List.mem_cons_self" "" "")
local macro_rules | `(tactic| walk_at "my up") => do upR (← rf "hp" "" "")
local macro_rules | `(tactic| walk_at "my uq") => `(tactic| repeat (first | with_reducible assumption | refine List.mem_cons_of_mem _ ?_ | (refine ‹∀ p ∈ _, p ∈ _› _ ?_)))

section
open PySem.SeqAt
theorem al_signs {cs : List Nat} {vs : List Value} (hl : vs.length = cs.length) (hP : ∀ (j : Nat) (v : Value), vs[j]? = some v → ∃ (c : Nat) (u : Tok), cs[j]? = some c ∧ v = Value.str ⟨#[c]⟩ u) : Paired (fun c v => ∃ u, v = Value.str ⟨#[c]⟩ u) cs vs := by
  induction cs generalizing vs with
  | nil =>
    cases vs with
    | nil => exact .nil
    | cons v r => cases hl
  | cons c r ih =>
    cases vs with
    | nil => cases hl
    | cons v q =>
      obtain ⟨c', u, e, rfl⟩ := hP 0 v rfl
      have e' : c = c' := by simpa using e
      subst e'
      exact .cons ⟨u, rfl⟩ (ih (by simpa using hl) fun j v h => hP (j + 1) v (by simpa using h))
noncomputable def oneP (pc : Nat → Bool) : Value → Bool
  | .str y _ => (match y.cps.toList with | [c] => pc c | _ => false)
  | _ => false
theorem al_filter {pc : Nat → Bool} {cs : List Nat} {vs ys : List Value} (h : Paired (fun c v => ∃ u, v = Value.str ⟨#[c]⟩ u) cs vs) (h2 : Paired (fun v y => ∀ c u, v = Value.str ⟨#[c]⟩ u → ∃ u', y = Value.str ⟨#[c]⟩ u') (vs.filter (oneP pc)) ys) :
    StrsAre ys ((cs.filter pc).map fun c => ⟨#[c]⟩) := by
  induction h generalizing ys with
  | nil => cases h2; exact .nil
  | @cons c v cs' vs' hv ht ih =>
    obtain ⟨u, rfl⟩ := hv
    have e : oneP pc (.str ⟨#[c]⟩ u) = pc c := rfl
    cases hp : pc c with
    | true =>
      rw [List.filter_cons, e, hp, if_pos rfl] at h2
      rw [List.filter_cons, hp, if_pos rfl]
      cases h2 with
      | cons q r =>
        obtain ⟨u', rfl⟩ := q c u rfl
        exact .cons _ _ (ih r)
    | false =>
      rw [List.filter_cons, e, hp, if_neg Bool.false_ne_true] at h2
      rw [List.filter_cons, hp, if_neg Bool.false_ne_true]
      exact ih h2
section
variable {prog : Program} {w : World} {A : Around} {E : Value → Shared → Prop} {s : Shared} {env : Env} {scope : Scope} {x : Str} {ifs : List PySem.Expr} {elt : PySem.Expr} {Q : Value → Shared → Prop}
theorem compT {xt : Str} {tx : Tok} (pc : Nat → Bool) (hh : A.handled = none) (hsz : xt.length ≤ sizeLine)
    (tests : ∀ C (c : Nat) t s₃ m₃ E', s₃.heap.Ns C m₃ → m₃ x = some (.str ⟨#[c]⟩ t) → (∀ b o, b ≠ s.heap.objs.size → s.heap.get? b = some o → s₃.heap.get? b = some o) →
      wpAny (model prog w) A (forIn ifs true fun c r => if r = true then do let ok ← isTrue c (compEnv scope C env) (eval c (compEnv scope C env)); pure (ForInStep.yield ok) else pure (ForInStep.yield r))
        (fun ok s₄ => ok = pc c ∧ Keeps s₃ s₄) E' s₃)
    (helt : ∀ C (c : Nat) t s₃ m₃ E', s₃.heap.Ns C m₃ → m₃ x = some (.str ⟨#[c]⟩ t) → (∀ b o, b ≠ s.heap.objs.size → s.heap.get? b = some o → s₃.heap.get? b = some o) →
      wpAny (model prog w) A (eval elt (compEnv scope C env)) (fun y s₄ => (∃ u, y = .str ⟨#[c]⟩ u) ∧ Keeps s₃ s₄) E' s₃)
    (k : ∀ D h' tk ys, s.heap.get? D = none → h'.IsList D ys → h'.PlainList D ys → StrsAre ys.toList ((xt.cps.toList.filter pc).map fun c => ⟨#[c]⟩) → (∀ b o, s.heap.get? b = some o → h'.get? b = some o) → Q (.ref D) { s with heap := h', toks := tk }) :
    wpAny (model prog w) A (pyIter (.str xt tx)) (CompPost prog w A env scope x ifs elt Q) E s := by
  refine wpAny_pyIter_str fun o St hW hst => ?_
  have old : ∀ {s₃ : Shared}, (∀ b o', b ∉ [s.heap.objs.size] → ({ s with heap := s.heap.push o } : Shared).heap.get? b = some o' → s₃.heap.get? b = some o') → ∀ b o', b ≠ s.heap.objs.size → s.heap.get? b = some o' → s₃.heap.get? b = some o' := fun hk b o' hb e =>
    hk b o' (by simpa using hb) (Heap.get?_push_of_some _ e)
  refine ⟨oneP pc, fun v y => ∀ c u, v = Value.str ⟨#[c]⟩ u → ∃ u', y = Value.str ⟨#[c]⟩ u', _, _, _, _, _, St, rfl, hW A hh, hsz, hst, ?_, ⟨?_, ?_⟩, ?_⟩
  · intro b hb
    rw [List.mem_singleton.mp hb, Heap.size_push]
    exact Nat.lt_succ_self _
  · rintro C i v s₃ m₃ E' ⟨c, u, hc, rfl⟩ hn hm hk _
    exact tests C c u s₃ m₃ E' hn hm (old hk)
  · rintro C i v s₃ m₃ E' ⟨c, u, hc, rfl⟩ _ hn hm hk _
    refine wpAny_mono (helt C c u s₃ m₃ E' hn hm (old hk)) (fun y s₄ q => ⟨?_, q.2⟩) fun _ _ e => e
    intro c' u' e
    obtain ⟨u₁, rfl⟩ := q.1
    injection e with e1 e2
    exact ⟨u₁, by rw [e1]⟩
  · intro D h' tk ys vs hD hl hpl hlen hP hF hk
    have hD' : s.heap.get? D = none := by
      cases q : s.heap.get? D with
      | none => rfl
      | some o' => have := Heap.get?_push_of_some o q; rw [hD] at this; cases this
    refine k D h' tk ys hD' hl hpl (al_filter (al_signs (by rw [hlen, Array.length_toList]) fun j v e => ?_) hF) fun b o' e => hk b o' ?_ (Heap.get?_push_of_some _ e)
    · obtain ⟨c, u, hc, rfl⟩ := hP j v e
      exact ⟨c, u, by rw [Array.getElem?_toList]; exact hc, rfl⟩
    · intro hb
      rw [List.mem_singleton.mp hb] at e
      exact absurd (Heap.lt_size e) (Nat.lt_irrefl _)
end
theorem readsAll_of_strs {h : Heap} : ∀ {vs : List Value} {ns : List Str}, StrsAre vs ns → ReadsAll h vs (ns.map PyData.str) []
  | _, _, .nil => .nil
  | _, _, .cons k t r => by
    have := ReadsAll.cons (Reads.str (h := h) k t) (readsAll_of_strs (h := h) r)
    simpa using this
theorem reads_of_strs {h : Heap} {a : Addr} {vs : List Value} {ns : List Str} (hl : h.IsList a vs.toArray) (hi : StrsAre vs ns) : Reads h (.ref a) (.list (ns.map PyData.str)) [a] := by
  obtain ⟨o, ho, hc, n, hd⟩ := hl
  exact Reads.list ho hc hd (by simpa using readsAll_of_strs hi)
theorem canLayAll0_strs : ∀ ns : List Str, (∀ n ∈ ns, PyData.strOk n = true) → PyData.canLayAll0 (ns.map PyData.str) = true
  | [], _ => by simp [PyData.canLayAll0]
  | n :: r, h => by simp [PyData.canLayAll0, PyData.canLay0, canLayAll0_strs r fun x hx => h x (.tail _ hx), h n (.head _)]
theorem depthAll_strs : ∀ ns : List Str, PyData.depthAll (ns.map PyData.str) ≤ 1
  | [] => by simp [PyData.depthAll]
  | n :: r => by
    have := depthAll_strs r
    simp only [List.map_cons, PyData.depthAll, PyData.depth]
    omega
theorem shaped_strs (ns : List Str) (hs : ∀ n ∈ ns, PyData.strOk n = true) : shaped (.list (ns.map PyData.str)) = true := by
  have h1 := depthAll_strs ns
  have h2 : PyData.depth (.list (ns.map PyData.str)) ≤ 64 := by simp only [PyData.depth]; omega
  show (PyData.canLay0 (.list (ns.map PyData.str)) && decide (PyData.depth (.list (ns.map PyData.str)) ≤ 64)) = true
  rw [Bool.and_eq_true]
  exact ⟨by simp only [PyData.canLay0]; exact canLayAll0_strs ns hs, decide_eq_true h2⟩
theorem ne_nilK {prog : Program} {w : World} {A : Around} {E : Value → Shared → Prop} {s : Shared} {a b : Addr} {vs : List Value} {ns : List Str} {Q : Value → Shared → Prop} (hl : s.heap.IsList a vs.toArray) (hi : StrsAre vs ns) (hl' : s.heap.IsList b ([] : List Value).toArray) (hs : ∀ n ∈ ns, PyData.strOk n = true) (hu : A.units + 64 < cLine)
    (h : Q (.bool (!ns.isEmpty)) s) : wpAny (model prog w) A (compareOp .NotEq (.ref a) (.ref b)) Q E s :=
  ne_dataH_same (reads_of_strs hl hi) (reads_of_strs hl' .nil) (shaped_strs ns hs) (shaped_strs [] fun _ h => nomatch h) hu (by cases ns <;> simp [noMix, noMixAll]) (by
    have e : PySem.Spec.same (.list (ns.map PyData.str)) (.list (([] : List Str).map PyData.str)) = ns.isEmpty := by cases ns <;> simp [PySem.Spec.same, PySem.Spec.sameAll]
    rw [e]; exact h)
theorem fresh_base {h₀ h : Heap} {L D : Addr} {m : Str → Option Value} (F : Fr h₀ L h m) (hD : h.get? D = none) : h₀.get? D = none := by
  cases q : h₀.get? D with
  | none => rfl
  | some o => have := F.keep D o q; rw [hD] at this; cases this
theorem compTN {prog : Program} {w : World} {A : Around} {E : Value → Shared → Prop} {s : Shared} {env : Env} {scope : Scope} {x : Str} {ifs : List PySem.Expr} {elt : PySem.Expr} {Q : Value → Shared → Prop} {xt : Str} {tx : Tok}
    {h₀ : Heap} {L : Addr} {m : Str → Option Value} {news : List (Addr × Obj)} (pc : Nat → Bool) (hh : A.handled = none) (hsz : xt.length ≤ sizeLine) (F : Fr h₀ L s.heap m) (N : News h₀ L s.heap news)
    (tests : ∀ C (c : Nat) t s₃ m₃ E', s₃.heap.Ns C m₃ → m₃ x = some (.str ⟨#[c]⟩ t) → (∀ b o, b ≠ s.heap.objs.size → s.heap.get? b = some o → s₃.heap.get? b = some o) →
      wpAny (model prog w) A (forIn ifs true fun c r => if r = true then do let ok ← isTrue c (compEnv scope C env) (eval c (compEnv scope C env)); pure (ForInStep.yield ok) else pure (ForInStep.yield r))
        (fun ok s₄ => ok = pc c ∧ Keeps s₃ s₄) E' s₃)
    (helt : ∀ C (c : Nat) t s₃ m₃ E', s₃.heap.Ns C m₃ → m₃ x = some (.str ⟨#[c]⟩ t) → (∀ b o, b ≠ s.heap.objs.size → s.heap.get? b = some o → s₃.heap.get? b = some o) →
      wpAny (model prog w) A (eval elt (compEnv scope C env)) (fun y s₄ => (∃ u, y = .str ⟨#[c]⟩ u) ∧ Keeps s₃ s₄) E' s₃)
    (k : ∀ D h' tk (oD : Obj) (vs : List Value) n, Fr h₀ L h' m → News h₀ L h' ((D, oD) :: news) → oD.cls = .type "list" → oD.data = .seq vs.toArray n → StrsAre vs ((xt.cps.toList.filter pc).map fun c => ⟨#[c]⟩) → Q (.ref D) { s with heap := h', toks := tk }) :
    wpAny (model prog w) A (pyIter (.str xt tx)) (CompPost prog w A env scope x ifs elt Q) E s := by
  refine compT pc hh hsz tests helt fun D h' tk ys hD hl _ hs hk => ?_
  obtain ⟨oD, hoD, hcD, nD, hdD⟩ := hl
  have F' := F.keeps hk
  exact k D h' tk oD ys.toList nD F' (News.more F' (News.keeps N hk) hoD (fun es n q => by rw [hdD] at q; cases q) (fresh_base F hD)) hcD (by rw [hdD]) hs
theorem find_digit : ∀ k : Nat, k < 10 → Txt.find (Str.ofString "0123456789") ⟨#[48 + k]⟩ = (k : Int) := by decide +kernel
theorem index_digit {prog : Program} {w : World} {A : Around} {E : Value → Shared → Prop} {s : Shared} {c : Nat} {t u : Tok} {Q : Value → Shared → Prop} (hA : A.handled = none) (hd : isDig c = true) (h : Q (.int ((c : Int) - 48) s.toks) { s with toks := s.toks + 1 }) :
    wpAny (model prog w) A (call (.builtin "str.index") [.str (Str.ofString "0123456789") t, .str ⟨#[c]⟩ u]) Q E s := by
  have h1 : 48 ≤ c ∧ c ≤ 57 := by
    unfold isDig at hd
    simpa using hd
  obtain ⟨k, rfl⟩ : ∃ k, c = 48 + k := ⟨c - 48, by omega⟩
  have hf := find_digit k (by omega)
  refine index_or hA (fun e => ?_) fun _ _ => ?_
  · rw [hf] at e; omega
  · rw [hf]
    have e : ((48 + k : Nat) : Int) - 48 = (k : Int) := by omega
    rw [e] at h
    exact h

end
local macro_rules | `(tactic| walk_at "call builtin:str.index") => `(tactic| (k_here; refine index_digit (by rfl) (by with_reducible assumption) ?_))

section
section
variable {w : World} {A : Around} {E : Value → Shared → Prop} {s : Shared} {h₀ : Heap} {L : Addr} {m : Str → Option Value} {news : List (Addr × Obj)} {v : V} {val : Value} {Q : Value → Shared → Prop}
theorem isiV {C : Addr} (hC : C = 68 ∨ C = 89 ∨ C = 110 ∨ C = 131 ∨ C = 152) (F : Fr h₀ L s.heap m) (X : (hd.heap_1 w.params).In h₀) (N : News h₀ L s.heap news) (hb : Bears w news v val) (h : ∀ tk, Q (.bool (v.isC C)) { s with toks := tk }) :
    wpAny (model PySem.Challenge.rw_np0298_01.row.prog w) A (call (.builtin "isinstance") [val, .ref C]) Q E s := by
  revert X hb
  k_fill
  intro X hb
  have go : ∀ {b : Bool}, v.isC C = b → (∀ tk, Q (.bool b) { s with toks := tk }) := fun e tk => by rw [← e]; exact h tk
  cases v
  case int n => obtain ⟨t, rfl⟩ := hb; rcases hC with rfl | rfl | rfl | rfl | rfl <;> (walk1; exact go rfl _)
  case str n => obtain ⟨t, rfl⟩ := hb; rcases hC with rfl | rfl | rfl | rfl | rfl <;> (walk1; exact go rfl _)
  case pat j => refine hb.inst (C := 68) rfl fun p d es en e hp hd => ?_; subst e; rcases hC with rfl | rfl | rfl | rfl | rfl <;> (walk1; exact go rfl _)
  case dly j => refine hb.inst (C := 89) rfl fun p d es en e hp hd => ?_; subst e; rcases hC with rfl | rfl | rfl | rfl | rfl <;> (walk1; exact go rfl _)
  case name j => refine hb.inst (C := 131) rfl fun p d es en e hp hd => ?_; subst e; rcases hC with rfl | rfl | rfl | rfl | rfl <;> (walk1; exact go rfl _)
  case node j => refine hb.inst (C := 152) rfl fun p d es en e hp hd => ?_; subst e; rcases hC with rfl | rfl | rfl | rfl | rfl <;> (walk1; exact go rfl _)
theorem isiS (F : Fr h₀ L s.heap m) (X : (hd.heap_1 w.params).In h₀) (N : News h₀ L s.heap news) (hb : Bears w news v val) (h : ∀ tk, Q (.bool v.isS) { s with toks := tk }) :
    wpAny (model PySem.Challenge.rw_np0298_01.row.prog w) A (call (.builtin "isinstance") [val, .type "str"]) Q E s := by
  revert X hb
  k_fill
  intro X hb
  have go : ∀ {b : Bool}, v.isS = b → (∀ tk, Q (.bool b) { s with toks := tk }) := fun e tk => by rw [← e]; exact h tk
  cases v
  case int n => obtain ⟨t, rfl⟩ := hb; walk1; exact go rfl _
  case str n => obtain ⟨t, rfl⟩ := hb; walk1; exact go rfl _
  case pat j => refine hb.inst (C := 68) rfl fun p d es en e hp hd => ?_; subst e; walk1; exact go rfl _
  case dly j => refine hb.inst (C := 89) rfl fun p d es en e hp hd => ?_; subst e; walk1; exact go rfl _
  case name j => refine hb.inst (C := 131) rfl fun p d es en e hp hd => ?_; subst e; walk1; exact go rfl _
  case node j => refine hb.inst (C := 152) rfl fun p d es en e hp hd => ?_; subst e; walk1; exact go rfl _
theorem isiI (F : Fr h₀ L s.heap m) (X : (hd.heap_1 w.params).In h₀) (N : News h₀ L s.heap news) (hb : Bears w news v val) (h : ∀ tk, Q (.bool v.isI) { s with toks := tk }) :
    wpAny (model PySem.Challenge.rw_np0298_01.row.prog w) A (call (.builtin "isinstance") [val, .type "int"]) Q E s := by
  revert X hb
  k_fill
  intro X hb
  have go : ∀ {b : Bool}, v.isI = b → (∀ tk, Q (.bool b) { s with toks := tk }) := fun e tk => by rw [← e]; exact h tk
  cases v
  case int n => obtain ⟨t, rfl⟩ := hb; walk1; exact go rfl _
  case str n => obtain ⟨t, rfl⟩ := hb; walk1; exact go rfl _
  case pat j => refine hb.inst (C := 68) rfl fun p d es en e hp hd => ?_; subst e; walk1; exact go rfl _
  case dly j => refine hb.inst (C := 89) rfl fun p d es en e hp hd => ?_; subst e; walk1; exact go rfl _
  case name j => refine hb.inst (C := 131) rfl fun p d es en e hp hd => ?_; subst e; walk1; exact go rfl _
  case node j => refine hb.inst (C := 152) rfl fun p d es en e hp hd => ?_; subst e; walk1; exact go rfl _
theorem isiP {tp : Addr} {tl : List Value} {tn : Nat} (htl : tl = [.type "str", .type "int"]) (F : Fr h₀ L s.heap m) (X : (hd.heap_1 w.params).In h₀) (N : News h₀ L s.heap ((tp, tupO tl tn) :: news)) (hb : Bears w news v val) (h : ∀ tk, Q (.bool v.plain) { s with toks := tk }) :
    wpAny (model PySem.Challenge.rw_np0298_01.row.prog w) A (call (.builtin "isinstance") [val, .ref tp]) Q E s := by
  subst htl
  revert X hb
  k_fill
  intro X hb
  have go : ∀ {b : Bool}, v.plain = b → (∀ tk, Q (.bool b) { s with toks := tk }) := fun e tk => by rw [← e]; exact h tk
  cases v
  case int n => obtain ⟨t, rfl⟩ := hb; walk1; exact go rfl _
  case str n => obtain ⟨t, rfl⟩ := hb; walk1; exact go rfl _
  case pat j => refine hb.inst (C := 68) rfl fun p d es en e hp hd => ?_; subst e; walk1; exact go rfl _
  case dly j => refine hb.inst (C := 89) rfl fun p d es en e hp hd => ?_; subst e; walk1; exact go rfl _
  case name j => refine hb.inst (C := 131) rfl fun p d es en e hp hd => ?_; subst e; walk1; exact go rfl _
  case node j => refine hb.inst (C := 152) rfl fun p d es en e hp hd => ?_; subst e; walk1; exact go rfl _
end

end
local macro_rules | `(tactic| walk_at "call builtin:isinstance") => do
  let i ← inC true "tk9"
  dfltR (← firstR [← sq (← rfw "isiV" "CFXNb?" "bwCdFaXaNa") [i], ← sq (← rfw "isiS" "FXNb?" "bwFaXaNa") [i], ← sq (← rfw "isiI" "FXNb?" "bwFaXaNa") [i], ← sq (← rfw "isiP" "pFXNb?" "bwFaXaNapr") [i]])

section
theorem fits_e1 {n wd : Int} (h : -(1 * 2 ^ (wd - 1).toNat) ≤ n) : Value.bool (decide (n < 1 * 2 ^ (wd - 1).toNat)) = .bool (fitsB n wd) := by
  unfold fitsB
  generalize (2 : Int) ^ (wd - 1).toNat = p at *
  have h' : -p ≤ n := by omega
  simp [h']
theorem fits_e2 {n wd : Int} (h : ¬ -(1 * 2 ^ (wd - 1).toNat) ≤ n) : Value.bool (decide (-(1 * 2 ^ (wd - 1).toNat) ≤ n)) = .bool (fitsB n wd) := by
  unfold fitsB
  generalize (2 : Int) ^ (wd - 1).toNat = p at *
  have h' : ¬ -p ≤ n := by omega
  simp [h']
theorem c_fits (w : World) (n wd : Int) (t1 t2 : Tok) (h1 : 5 ≤ wd) (h2 : wd ≤ 40) :
    Tells w 700 900 177 [.int n t1, .int wd t2] (fun _ => True) (fun ns v ns' => v = .bool (fitsB n wd) ∧ ns' = ns) := by
  unfold Tells
  k_fill
  intro cn sn sg sc sm a ccd cl outer A₀ base h₀ L m news s Q E mean mg mb B F X N T _ hret
  k_steps
  all_goals refine hret _ _ _ _ (by assumption) (by assumption) ⟨?_, rfl⟩
  all_goals first | exact fits_e1 (by assumption) | exact fits_e2 (by assumption)

end
local macro_rules | `(tactic| walk_at "call ref") => use9 177 "c_fits" "_____12" "Kp1s2s" true "e9 e8" "e9 e8" true

section
theorem c_wot (w : World) (x : Str) (wd : Int) (t1 t2 : Tok) (h1 : 5 ≤ wd) (h2 : wd ≤ 40) (hx : x.length ≤ 100) :
    Tells w 690 850 184 [.str x t1, .int wd t2] (fun ns => True) (fun ns r ns' => (∃ t, r = optV (readT x wd) t) ∧ ns' = ns) := by
  unfold Tells
  k_fill
  intro cn sn sg sc sm a ccd cl outer A₀ base h₀ L m news s Q E mean mg mb B F X N T hpre hret
  k_steps
  all_goals (try (
    (rename Fr _ _ _ _ => lF)
    (rename News _ _ _ _ => lN)
    (refine iterT1 (Str.ofString "number") (fun l v => (∃ t, v = .int (numAcc l) t) ∧ l.all isDig) rfl lF lN (by rfl) ⟨⟨_, rfl⟩, rfl⟩ ?_ ?_) <;> (clear lF lN; first | (rintro l c post t _ h tk own hc ⟨⟨tn, rfl⟩, qd⟩ F₁ N₁) | (rintro _ u h tk ⟨⟨tn, rfl⟩, qd⟩ F₁ N₁)) <;> k_steps))
  all_goals try exact ⟨_, _, _, _, rfl, by assumption, by assumption, rfl, (by intro y g1 g2; simp [g1, g2]), ⟨_, by rw [numAcc_snoc]⟩, all_snoc (by with_reducible assumption) (dig_in (by with_reducible assumption) (by with_reducible assumption))⟩
  all_goals try dsimp only [TurnT1]
  all_goals k_steps
  all_goals refine hret _ _ _ _ (by with_reducible assumption) (by first | with_reducible assumption | exact nleft (by with_reducible assumption)) ⟨?_, rfl⟩
  all_goals first
    | exact ex_some (rd0 (by with_reducible assumption))
    | (first
        | (have D := Ds.of1 (x := x) (by with_reducible assumption) (by with_reducible assumption); have hne := Ds.ne1 (x := x) (by with_reducible assumption))
        | (have D := Ds.of2 (x := x) (by with_reducible assumption) (by with_reducible assumption); try (have hne := Ds.ne1 (x := Txt.slice x (some 1) none) (by with_reducible assumption)))
       first
        | exact ex_none (D.empty (by with_reducible assumption))
        | exact ex_none (D.long (by with_reducible assumption))
        | exact ex_none (D.bad (by with_reducible assumption) (dig_lo (by with_reducible assumption)))
        | exact ex_none (D.bad (by with_reducible assumption) (dig_hi (by with_reducible assumption)))
        | exact ex_some (D.okT hne (by with_reducible assumption) (by with_reducible assumption) (by with_reducible assumption) (by with_reducible assumption))
        | exact ex_none (D.okTn hne (by with_reducible assumption) (by with_reducible assumption) (by with_reducible assumption) (by with_reducible assumption))
        | exact ex_some (D.okF hne (by with_reducible assumption) (by with_reducible assumption) (by with_reducible assumption) (by with_reducible assumption))
        | exact ex_none (D.okFn hne (by with_reducible assumption) (by with_reducible assumption) (by with_reducible assumption) (by with_reducible assumption)))
theorem c_wotV (w : World) (v : V) (val : Value) (wd : Int) (t2 : Tok) (h1 : 5 ≤ wd) (h2 : wd ≤ 40) (hv : v.ok) :
    Tells w 690 850 184 [val, .int wd t2] (fun ns => Bears w ns v val ∧ v.isS = true) (fun ns r ns' => (∃ t, r = optV (v.whole wd) t) ∧ ns' = ns) := by
  unfold Tells
  intro cn sn sg sc sm a ccd cl outer A₀ base h₀ L m news s Q E mean mg mb B F X N T hpre hret
  obtain ⟨hb, hs⟩ := hpre
  obtain ⟨n, rfl⟩ := V.toStr hs
  obtain ⟨t, rfl⟩ := hb
  exact c_wot w n wd t t2 h1 h2 hv.1 cn sn sg sc sm a ccd cl outer A₀ base h₀ L m news s Q E mean mg mb B F X N T trivial hret

end
local macro_rules | `(tactic| walk_at "call ref") => use9 184 "c_wotV" "_____123" "Kp1s2s3s" true "t9 e9|e8" "e9 e8" true
local macro_rules | `(tactic| walk_at "call ref") => use9 184 "c_wot" "_____123" "Kp1s2s3s" true "t9 e9|e8" "e9 e8" true

section
theorem c_tow (w : World) (n : Int) (t1 : Tok) (hn : n.natAbs < 10 ^ 13) :
    Tells w 690 850 191 [.int n t1] (fun _ => True) (fun ns r ns' => (∃ t, r = .str (writeT n) t) ∧ ns' = ns) := by
  unfold Tells
  k_fill
  intro cn sn sg sc sm a ccd cl outer A₀ base h₀ L m news s Q E mean mg mb B F X N T hpre hret
  k_steps
  (rename Fr _ _ _ _ => lF)
  (rename News _ _ _ _ => lN)
  have lN' := ncons lN
  refine while2 (Str.ofString "left") (Str.ofString "found") (n₀ := n.natAbs + 1) (fun k v1 v2 => ∃ (a : Nat) (l : List Nat) (t1 t2 : Tok) (z : Int), v1 = .int z t1 ∧ v2 = .str ⟨l.toArray⟩ t2 ∧ z = (a : Int) ∧ k = a + (if l = [] then 1 else 0) ∧ WInv n.natAbs a l) lF lN' (by rfl) (by rfl) ⟨n.natAbs, [], _, _, _, rfl, rfl, by split <;> omega, rfl, .inl ⟨rfl, rfl⟩⟩ ?_
  clear lF lN lN'
  rintro k _ _ h tk ⟨a, l, t1, t2, _, rfl, rfl, rfl, hk, hi⟩ F₁ N₁
  have hlen := hi.len hn
  k_steps
  all_goals try exact ⟨_, _, _, _, _, _, rfl, by assumption, by assumption, rfl, rfl, (by intro y g1 g2; simp [g1, g2]), wmeas hk (by first | exact .inl (by omega) | exact .inr (str_nil (by with_reducible assumption))), a / 10, (48 + a % 10) :: l, _, _, _, rfl, dig_cat (by rw [fmod10]; omega), fdiv10 a, rfl, hi.step (by first | exact .inl (by omega) | exact .inr (str_nil (by with_reducible assumption)))⟩
  all_goals refine hret _ _ _ _ (by with_reducible assumption) (by first | with_reducible assumption | exact nleft (by assumption)) ⟨?_, rfl⟩
  all_goals have hf := hi.done (by omega) (str_cons (by with_reducible assumption))
  all_goals first | exact writeT_neg (by with_reducible assumption) hf | exact writeT_pos (by with_reducible assumption) hf
theorem c_towV (w : World) (v : V) (val : Value) (hv : v.ok) :
    Tells w 690 850 191 [val] (fun ns => Bears w ns v val ∧ v.isI = true) (fun ns r ns' => (∃ t, r = optS v.text t) ∧ ns' = ns) := by
  unfold Tells
  intro cn sn sg sc sm a ccd cl outer A₀ base h₀ L m news s Q E mean mg mb B F X N T hpre hret
  obtain ⟨hb, hs⟩ := hpre
  obtain ⟨n, rfl⟩ := V.toInt hs
  obtain ⟨t, rfl⟩ := hb
  exact c_tow w n t hv cn sn sg sc sm a ccd cl outer A₀ base h₀ L m news s Q E mean mg mb B F X N T trivial fun v' ns' h' tk' F' N' p => hret v' ns' h' tk' F' N' ⟨let ⟨t, e⟩ := p.1; ⟨t, e⟩, p.2⟩

end
local macro_rules | `(tactic| walk_at "call ref") => use9 191 "c_towV" "___1" "Kp1s" true "t9 e9|e8" "e9 e8" true
local macro_rules | `(tactic| walk_at "call ref") => use9 191 "c_tow" "___1" "Kp1s" true "t9 e9|e8" "e9 e8" true

section
theorem c_lwr (w : World) (n : Int) (t1 : Tok) (hn : n.natAbs < 10 ^ 13) :
    Tells w 690 850 375 [.int n t1] (fun _ => True) (fun ns r ns' => (∃ t, r = .str (writeT n) t) ∧ ns' = ns) := by
  unfold Tells
  k_fill
  intro cn sn sg sc sm a ccd cl outer A₀ base h₀ L m news s Q E mean mg mb B F X N T hpre hret
  k_steps
  (rename Fr _ _ _ _ => lF)
  (rename News _ _ _ _ => lN)
  have lN' := ncons lN
  refine while2 (Str.ofString "left") (Str.ofString "found") (n₀ := n.natAbs + 1) (fun k v1 v2 => ∃ (a : Nat) (l : List Nat) (t1 t2 : Tok) (z : Int), v1 = .int z t1 ∧ v2 = .str ⟨l.toArray⟩ t2 ∧ z = (a : Int) ∧ k = a + (if l = [] then 1 else 0) ∧ WInv n.natAbs a l) lF lN' (by rfl) (by rfl) ⟨n.natAbs, [], _, _, _, rfl, rfl, by split <;> omega, rfl, .inl ⟨rfl, rfl⟩⟩ ?_
  clear lF lN lN'
  rintro k _ _ h tk ⟨a, l, t1, t2, _, rfl, rfl, rfl, hk, hi⟩ F₁ N₁
  have hlen := hi.len hn
  k_steps
  all_goals try exact ⟨_, _, _, _, _, _, rfl, by assumption, ncons (by assumption), rfl, rfl, (by intro y g1 g2; simp [g1, g2]), wmeas hk (by first | exact .inl (by omega) | exact .inr (str_nil (by with_reducible assumption))), a / 10, (48 + a % 10) :: l, _, _, _, rfl, item_cat, fdiv10 a, rfl, hi.step (by first | exact .inl (by omega) | exact .inr (str_nil (by with_reducible assumption)))⟩
  all_goals refine hret _ _ _ _ (by with_reducible assumption) (by first | with_reducible assumption | exact nleft (by assumption)) ⟨?_, rfl⟩
  all_goals have hf := hi.done (by omega) (str_cons (by with_reducible assumption))
  all_goals first | exact writeT_neg (by with_reducible assumption) hf | exact writeT_pos (by with_reducible assumption) hf
theorem c_lwrV (w : World) (v : V) (val : Value) (hv : v.ok) :
    Tells w 690 850 375 [val] (fun ns => Bears w ns v val ∧ v.isI = true) (fun ns r ns' => (∃ t, r = optS v.text t) ∧ ns' = ns) := by
  unfold Tells
  intro cn sn sg sc sm a ccd cl outer A₀ base h₀ L m news s Q E mean mg mb B F X N T hpre hret
  obtain ⟨hb, hs⟩ := hpre
  obtain ⟨n, rfl⟩ := V.toInt hs
  obtain ⟨t, rfl⟩ := hb
  exact c_lwr w n t hv cn sn sg sc sm a ccd cl outer A₀ base h₀ L m news s Q E mean mg mb B F X N T trivial fun v' ns' h' tk' F' N' p => hret v' ns' h' tk' F' N' ⟨let ⟨t, e⟩ := p.1; ⟨t, e⟩, p.2⟩

end
local macro_rules | `(tactic| walk_at "call ref") => use9 375 "c_lwrV" "___1" "Kp1s" true "t9 e9|e8" "e9 e8" true
local macro_rules | `(tactic| walk_at "call ref") => use9 375 "c_lwr" "___1" "Kp1s" true "t9 e9|e8" "e9 e8" true

section
theorem c_kind (w : World) (v : V) (val : Value) :
    Tells w 700 900 163 [val] (fun ns => Bears w ns v val) (fun ns r ns' => (∃ t, r = .str (Str.ofString v.kind) t) ∧ ns' = ns) := by
  unfold Tells
  k_fill
  intro cn sn sg sc sm a ccd cl outer A₀ base h₀ L m news s Q E mean mg mb B F X N T hpre hret
  k_steps
  all_goals first
    | exact hret _ _ _ _ (by with_reducible assumption) (by with_reducible assumption) ⟨V.kS (by with_reducible assumption), rfl⟩
    | exact hret _ _ _ _ (by with_reducible assumption) (by with_reducible assumption) ⟨V.kI (by with_reducible assumption), rfl⟩
    | exact hret _ _ _ _ (by with_reducible assumption) (by with_reducible assumption) ⟨V.kP (by with_reducible assumption), rfl⟩
    | exact hret _ _ _ _ (by with_reducible assumption) (by with_reducible assumption) ⟨V.kN (by with_reducible assumption), rfl⟩
    | exact hret _ _ _ _ (by with_reducible assumption) (by with_reducible assumption) ⟨V.kE (by with_reducible assumption), rfl⟩
    | exact (V.noCode (by with_reducible assumption)).elim
    | exact (V.some (by with_reducible assumption) (by with_reducible assumption) (by with_reducible assumption) (by with_reducible assumption) (by with_reducible assumption) (by with_reducible assumption)).elim
    | (obtain ⟨j, rfl⟩ := V.toNode (by with_reducible assumption)
       obtain ⟨p, d, t1, t2, t3, t4, t5, t6, rfl, hp, hd⟩ := hpre
       k_steps
       exact hret _ _ _ _ (by with_reducible assumption) (by with_reducible assumption) ⟨⟨_, rfl⟩, rfl⟩)
theorem c_plain (w : World) (v : V) (val : Value) :
    Tells w 700 900 170 [val] (fun ns => Bears w ns v val) (fun ns r ns' => r = .bool v.plain ∧ ns' = ns) := by
  unfold Tells
  k_fill
  intro cn sn sg sc sm a ccd cl outer A₀ base h₀ L m news s Q E mean mg mb B F X N T hpre hret
  k_steps
  exact hret _ _ _ _ (by with_reducible assumption) (ncons (by with_reducible assumption)) ⟨rfl, rfl⟩

end
local macro_rules | `(tactic| walk_at "call ref") => use9 163 "c_kind" "___" "Kp" true "t9 e9|e8" "e9 e8" true
local macro_rules | `(tactic| walk_at "call ref") => use9 170 "c_plain" "___" "Kp" true "e9 e8" "e9 e8" true

section
theorem c_towh (w : World) (v : V) (val : Value) (wd : Int) (t0 : Tok) (h1 : 5 ≤ wd) (h2 : wd ≤ 40) (hv : v.ok) :
    Tells w 680 800 198 [val, .int wd t0] (fun ns => Bears w ns v val) (fun ns r ns' => (∃ t, r = optV (v.whole wd) t) ∧ ns' = ns) := by
  unfold Tells
  k_fill
  intro cn sn sg sc sm a ccd cl outer A₀ base h₀ L m news s Q E mean mg mb B F X N T hpre hret
  k_steps
  all_goals first
    | (obtain ⟨n, rfl⟩ := V.toInt (by with_reducible assumption)
       obtain ⟨t, rfl⟩ := hpre
       exact hret _ _ _ _ (by with_reducible assumption) (by with_reducible assumption) ⟨ex_some rfl, rfl⟩)
    | exact hret _ _ _ _ (by with_reducible assumption) (by with_reducible assumption) ⟨⟨_, rfl⟩, rfl⟩
    | exact hret _ _ _ _ (by with_reducible assumption) (by with_reducible assumption) ⟨ex_none (V.wholeN (by with_reducible assumption) (by with_reducible assumption)), rfl⟩
theorem c_totx (w : World) (v : V) (val : Value) (hv : v.ok) :
    Tells w 680 800 205 [val] (fun ns => Bears w ns v val) (fun ns r ns' => (∃ t, r = optS v.text t) ∧ ns' = ns) := by
  unfold Tells
  k_fill
  intro cn sn sg sc sm a ccd cl outer A₀ base h₀ L m news s Q E mean mg mb B F X N T hpre hret
  k_steps
  all_goals first
    | (obtain ⟨n, rfl⟩ := V.toStr (by with_reducible assumption)
       obtain ⟨t, rfl⟩ := hpre
       exact hret _ _ _ _ (by with_reducible assumption) (by with_reducible assumption) ⟨exs_some rfl, rfl⟩)
    | exact hret _ _ _ _ (by with_reducible assumption) (by with_reducible assumption) ⟨⟨_, rfl⟩, rfl⟩
    | exact hret _ _ _ _ (by with_reducible assumption) (by with_reducible assumption) ⟨exs_none (V.textN (by with_reducible assumption) (by with_reducible assumption)), rfl⟩

end
local macro_rules | `(tactic| walk_at "call ref") => use9 198 "c_towh" "_____123" "Kp1s2s3s" true "t9 e9|e8" "e9 e8" true
local macro_rules | `(tactic| walk_at "call ref") => use9 205 "c_totx" "___1" "Kp1s" true "t9 e9|e8" "e9 e8" true

section
theorem c_lrd (w : World) (x : Str) (wd : Int) (t1 t2 : Tok) (h1 : 5 ≤ wd) (h2 : wd ≤ 40) (hx : x.length ≤ 100) (hc : ∀ c ∈ x.cps.toList, c < 128) :
    Tells w 690 850 368 [.str x t1, .int wd t2] (fun ns => True) (fun ns r ns' => (∃ t, r = optV (readT x wd) t) ∧ ns' = ns) := by
  unfold Tells
  k_fill
  intro cn sn sg sc sm a ccd cl outer A₀ base h₀ L m news s Q E mean mg mb B F X N T hpre hret
  refine wpAny_call ?_
  k_enter
  refine wpAny_execs_cons ?_
  (rename Fr _ _ _ _ => lF)
  (rename News _ _ _ _ => lN)
  refine cut_name (Str.ofString "digits") (fun v => ∃ ds t, v = .str ds t ∧ Dg x ds) lF lN ?_ ?_
  case refine_1 =>
    k_steps
    all_goals first
      | exact CutPost.intro (by assumption) (by assumption) (fun p hp => .tail _ hp) ⟨_, _, rfl, .inr ⟨rfl, by with_reducible assumption⟩⟩
      | exact CutPost.intro (by assumption) (by assumption) (fun p hp => .tail _ hp) ⟨_, _, rfl, .inl ⟨rfl, by with_reducible assumption⟩⟩
  case refine_2 =>
    clear lF lN
    rintro h tk _ lF lN ⟨ds, t, rfl, hd⟩
    have hdl := hd.len
    k_steps
    all_goals try (
      (rename Fr _ _ _ _ => lF)
      (rename News _ _ _ _ => lN)
      refine compTN (fun c => !isDig c) rfl (by rw [sizeLine_eq]; omega) lF lN ?_ ?_ ?_)
    case refine_1 =>
      intro C c t s₃ m₃ E' hn hm hk
      rw [List.forIn_cons]
      refine wpAny_bind ?_
      rw [if_pos rfl]
      refine wpAny_bind ?_
      k_steps
      refine wpAny_pure ?_
      dsimp only
      rw [List.forIn_nil]
      exact wpAny_pure ⟨by rw [in_digits]; simp, keeps_refl⟩
    case refine_2 =>
      intro C c t s₃ m₃ E' hn hm hk
      k_steps
      exact keeps_refl
    case refine_3 =>
      clear lF lN
      intro D h' tk oD vs n lF lN hcD hdD hs
      k_steps
      (rename News _ _ _ _ => lN2)
      refine ne_nilK ⟨oD, (lN2 _ (List.mem_cons_of_mem _ List.mem_cons_self)).1, hcD, n, hdD⟩ hs ⟨_, (lN2 _ List.mem_cons_self).1, rfl, _, rfl⟩ (fun y hy => ?_) (by k_units) ?_
      · obtain ⟨c, hc1, rfl⟩ := List.mem_map.mp hy
        have := hc c (hd.sub c (List.mem_filter.mp hc1).1)
        unfold PyData.strOk
        simp
        omega
      have lN3 := ncons (ncons lN2)
      clear lN2
      k_steps
      all_goals try (
        (rename Fr _ _ _ _ => lF)
        (rename News _ _ _ _ => lN)
        (have hall := all_of_empty (by with_reducible assumption))
        (refine iterT1 (Str.ofString "number") (fun l v => (∃ t, v = .int (numAcc l) t)) rfl lF lN (by rfl) ⟨_, rfl⟩ ?_ ?_) <;> (clear lF lN; first | (rintro l c post t _ h tk own hcs ⟨tn, rfl⟩ F₁ N₁; have hdig := dig_mem hcs hall) | (rintro _ u h tk ⟨tn, rfl⟩ F₁ N₁)) <;> k_steps)
      all_goals try exact ⟨_, _, _, _, rfl, by assumption, by assumption, rfl, (by intro y g1 g2; simp [g1, g2]), ⟨_, by rw [numAcc_snoc]; congr 1; omega⟩⟩
      all_goals refine hret _ _ _ _ (by with_reducible assumption) (by with_reducible assumption) ⟨?_, rfl⟩
      all_goals have DD := hd.ds (by with_reducible assumption)
      all_goals first
        | exact ex_none (DD.nall (not_all_of (by with_reducible assumption)))
        | exact ex_someN (DD.okT (Ds.ne1 (by with_reducible assumption)) (by with_reducible assumption) hall (by with_reducible assumption) (fitsB_neg (fitsB_in (by with_reducible assumption) (by with_reducible assumption))))
        | exact ex_none (DD.okTn (Ds.ne1 (by with_reducible assumption)) (by with_reducible assumption) hall (by with_reducible assumption) (fitsB_neg (fitsB_hi (by with_reducible assumption))))
        | exact ex_none (DD.okTn (Ds.ne1 (by with_reducible assumption)) (by with_reducible assumption) hall (by with_reducible assumption) (fitsB_neg (fitsB_lo (by with_reducible assumption))))
        | exact ex_some (DD.okF (Ds.ne1 (by with_reducible assumption)) (by with_reducible assumption) hall (by with_reducible assumption) (fitsB_in (by with_reducible assumption) (by with_reducible assumption)))
        | exact ex_none (DD.okFn (Ds.ne1 (by with_reducible assumption)) (by with_reducible assumption) hall (by with_reducible assumption) (fitsB_hi (by with_reducible assumption)))
        | exact ex_none (DD.okFn (Ds.ne1 (by with_reducible assumption)) (by with_reducible assumption) hall (by with_reducible assumption) (fitsB_lo (by with_reducible assumption)))
    all_goals refine hret _ _ _ _ (by with_reducible assumption) (by with_reducible assumption) ⟨?_, rfl⟩
    all_goals first
      | exact ex_some (rd0 (by with_reducible assumption))
      | exact ex_none ((hd.ds (by with_reducible assumption)).empty (by with_reducible assumption))
      | exact ex_none ((hd.ds (by with_reducible assumption)).long (by with_reducible assumption))
theorem c_lrdV (w : World) (v : V) (val : Value) (wd : Int) (t2 : Tok) (h1 : 5 ≤ wd) (h2 : wd ≤ 40) (hv : v.ok) :
    Tells w 690 850 368 [val, .int wd t2] (fun ns => Bears w ns v val ∧ v.isS = true) (fun ns r ns' => (∃ t, r = optV (v.whole wd) t) ∧ ns' = ns) := by
  unfold Tells
  intro cn sn sg sc sm a ccd cl outer A₀ base h₀ L m news s Q E mean mg mb B F X N T hpre hret
  obtain ⟨hb, hs⟩ := hpre
  obtain ⟨n, rfl⟩ := V.toStr hs
  obtain ⟨t, rfl⟩ := hb
  exact c_lrd w n wd t t2 h1 h2 hv.1 hv.2 cn sn sg sc sm a ccd cl outer A₀ base h₀ L m news s Q E mean mg mb B F X N T trivial hret

end
local macro_rules | `(tactic| walk_at "call ref") => use9 368 "c_lrdV" "_____123" "Kp1s2s3s" true "t9 e9|e8" "e9 e8" true
local macro_rules | `(tactic| walk_at "call ref") => use9 368 "c_lrd" "_____1234" "Kp1s2s3s4s" true "t9 e9|e8" "e9 e8" true

section
theorem fitsB_small {n wd : Int} (h1 : 5 ≤ wd) (h2 : wd ≤ 40) (h : fitsB n wd = true) : n.natAbs < 10 ^ 13 := by
  unfold fitsB at h
  have hp : (2 : Int) ^ (wd - 1).toNat ≤ 2 ^ 39 := by
    have : (2 : Nat) ^ (wd - 1).toNat ≤ 2 ^ 39 := Nat.pow_le_pow_right (by decide) (by omega)
    exact_mod_cast this
  simp only [Bool.and_eq_true, decide_eq_true_eq] at h
  have e : (2 : Int) ^ 39 = 549755813888 := by decide
  omega
theorem readL_small {l : List Nat} {wd n : Int} (h1 : 5 ≤ wd) (h2 : wd ≤ 40) (h : readL l wd = some n) : n.natAbs < 10 ^ 13 := by
  unfold readL at h
  dsimp only at h
  repeat' split at h
  all_goals first
    | (cases h; done)
    | (injection h with h; subst h; first | decide | exact fitsB_small h1 h2 (by assumption))
theorem V.whole_small {v : V} {wd n : Int} (hv : v.ok) (h1 : 5 ≤ wd) (h2 : wd ≤ 40) (h : v.whole wd = Option.some n) : n.natAbs < 10 ^ 13 := by
  cases v <;> try (cases h; done)
  · cases h; exact hv
  · exact readL_small h1 h2 h

end

section
theorem ei_slot_get : Slot "wrapper_descriptor" "__get__" "wrapper_descriptor.__get__" := .of (owner := "wrapper_descriptor") (n := "__get__") (by rw [typeLookup_type, builtinLookup_eq_fast]; kernel_rfl) (by decide +kernel) (by decide +kernel) (by decide +kernel)
  (by first | exact .inl (by decide +kernel) | exact .inr (by decide +kernel)) (by rw [isSubtype_type]; kernel_rfl)
theorem ei_entry_get : entryFor table "wrapper_descriptor.__get__" = some Builtin.«wrapper_descriptor.__get__» := entryFor_of_tree (by kernel_rfl)
theorem ei_args_get (a b c : Value) : argsOk "wrapper_descriptor.__get__" ⟨[a, b, c], []⟩ := by unfold argsOk; kernel_rfl
theorem ei_type : builtinType "Exception.__init__" = pure (.type "wrapper_descriptor") := by rw [builtinType_eq_fast]; kernel_rfl
section
variable {prog : Program} {w : World} {M : Model} {A : Around} {E : Value → Shared → Prop} {h : Heap} {g : Array GenState} {d : Drawn} {t : Nat} {os : OsState}
noncomputable abbrev mwObj (e : Addr) : Obj := { cls := .type "method-wrapper", data := .fields #[.builtin "Exception.__init__", .ref e] }
theorem ei_super_ga {so e : Addr} {oe : Obj} {l₀ l : List Value} {K : Frag} {tk : Tok} {Q : Fin → Shared → Prop}
    (hso : h.get? so = some { cls := .type "super", dict := none, data := .fields #[.ref 34, .ref e, .ref 34], slots := #[] }) (hno : Looks (model prog w) h (opaqueClassAbove (.ref 34)) none)
    (hC : Looks (model prog w) h (mroOf (.ref 34)) l₀) (hl : (l₀.dropWhile (· != .ref 34)).drop 1 = l) (X : K.In h)
    (hf : alongIn K "__init__" l = some (some (.builtin "Exception.__init__"))) (he : h.get? e = some oe) (hec : oe.cls = .ref 34) (hxC : e ≠ 34) (hsub : Looks (model prog w) h (isSubtype (.ref 34) (.type "Exception")) true)
    (hq : Q (.done (.ret (.ref h.objs.size))) ⟨h.push (mwObj e), g, d, t, os⟩) :
    wpAny (model prog w) A (Builtin.«super.__getattribute__» ⟨[.ref so, .str "__init__" tk], []⟩) Q E ⟨h, g, d, t, os⟩ := by
  have hlk := ei_slot_get.lookup
  have hne : (Value.ref e == Value.ref 34) = false := by simp [hxC]
  have hTf : (⟨h, g, d, t, os⟩ : Shared).TypeIs (.builtin "Exception.__init__") "wrapper_descriptor" := ei_type
  have hdt : ({ cls := .type "super", dict := none, data := .fields #[.ref 34, .ref e, .ref 34], slots := #[] } : Obj).data = .fields #[.ref 34, .ref e, .ref 34] := rfl
  have f0 : (#[.ref 34, .ref e, .ref 34] : Array Value)[0]? = some (.ref 34) := rfl
  have f1 : (#[.ref 34, .ref e, .ref 34] : Array Value)[1]? = some (.ref e) := rfl
  have f2 : (#[.ref 34, .ref e, .ref 34] : Array Value)[2]? = some (.ref 34) := rfl
  unfold Builtin.«super.__getattribute__»
  repeat (first
    | (with_reducible refine wpAny_field hso hdt f0 ?_) | (with_reducible refine wpAny_field hso hdt f1 ?_) | (with_reducible refine wpAny_field hso hdt f2 ?_)
    | (with_reducible refine ks_wpAny_notOpaque hno ?_)
    | (with_reducible refine Looks.at hC ?_; rw [hl])
    | (refine ks_forIn_along X (fun _ _ => rfl) rfl ?_ hf)
    | (with_reducible refine wpAny_typeOf hTf ?_)
    | (with_reducible refine wpAny_call_entry ei_slot_get hTf ei_entry_get ?_ (ei_args_get _ _ _))
    | (with_reducible refine ⟨_, rfl, ?_⟩)
    | (simp only [hne, Bool.or_false, Bool.false_eq_true, if_false])
    | wp_step
    | dsimp only)
  rw [hec, show (".".intercalate ("Exception.__init__".cutAt '.').dropLast) = "Exception" from by decide +kernel]
  refine Looks.at hsub ?_
  repeat (first | (with_reducible refine ⟨_, rfl, ?_⟩) | wp_step | dsimp only)
  exact hq
theorem ei_getMethod {so e : Addr} {oe : Obj} {l₀ l : List Value} {K : Frag} {pl : Sem Bool} {Q : Value × List Value → Shared → Prop}
    (hso : h.get? so = some { cls := .type "super", dict := none, data := .fields #[.ref 34, .ref e, .ref 34], slots := #[] }) (hno : Looks (model prog w) h (opaqueClassAbove (.ref 34)) none)
    (hC : Looks (model prog w) h (mroOf (.ref 34)) l₀) (hl : (l₀.dropWhile (· != .ref 34)).drop 1 = l) (X : K.In h)
    (hf : alongIn K "__init__" l = some (some (.builtin "Exception.__init__"))) (he : h.get? e = some oe) (hec : oe.cls = .ref 34) (hxC : e ≠ 34) (hsub : Looks (model prog w) h (isSubtype (.ref 34) (.type "Exception")) true)
    (hq : Q (.ref h.objs.size, []) ⟨h.push (mwObj e), g, d, t + 1, os⟩) :
    wpAny (model prog w) A (getMethod (.ref so) "__init__" pl) Q E ⟨h, g, d, t, os⟩ := by
  have hlk := PySem.F.ks_slot_super_ga.lookup
  have hT : ∀ t', (⟨h, g, d, t', os⟩ : Shared).TypeIs (.ref so) "super" := fun _ => ⟨_, hso, rfl⟩
  unfold getMethod
  refine wpAny_bind (wpAny_specialOf (hT _) hlk ?_)
  show wpAny _ _ (if (Manifest.canonical "super.__getattribute__" != "object.__getattribute__") = true then _ else _) _ _ _
  rw [if_pos PySem.F.ks_canon_super_ga]
  unfold getAttr getAttrBy
  refine wpAny_bind (wpAny_bind (wpAny_mkText (wpAny_holding (wpAny_bind (wpAny_typeOf (hT _) (wpAny_bind (wpAny_of_eq hlk ?_)))))))
  show wpAny _ _ (getAttrByItsOwn (.ref so) (.str "__init__" t) (.type "super") (.builtin "super.__getattribute__") true false) _ _ _
  unfold getAttrByItsOwn hookBefore callGetattribute boundAndCalled
  refine wpAny_bind (wpAny_of_eq (show (if onTheHeap (.type "super") then typeLookup (.type "super") "__getattr__" else pure none) = pure none from rfl) ?_)
  refine wpAny_bind (wpAny_attempt (wpAny_holding ?_))
  show wpAny _ _ (bindSpecial (.builtin "super.__getattribute__") (.ref so) >>= _) _ _ _
  refine wpAny_bind (wpAny_of_eq (PySem.F.ks_slot_super_ga.bind _) ?_)
  refine wpAny_mono (Q := fun v s' => v = .ref h.objs.size ∧ s' = ⟨h.push (mwObj e), g, d, t + 1, os⟩) (E := fun _ _ => False)
    (wpAny_call_entry PySem.F.ks_slot_super_ga (hT _) PySem.F.ks_entry_super_ga (ei_super_ga hso hno hC hl X hf he hec hxC hsub ⟨_, rfl, rfl, rfl⟩) (PySem.F.ks_gaArgs_super _ _)) (fun v s' hv => ?_) fun _ _ z => z.elim
  obtain ⟨rfl, rfl⟩ := hv
  exact wpAny_pure (wpAny_pure hq)
/-- the call of the bound wrapper: the arguments are put anew -/
theorem ei_call {mw e ta : Addr} {text : Str} {tt : Tok} {nm q : Str} {N : Addr} {bs sub : List Value} {hdct : Bool} {sn : List Str} {ab : Bool} {col : Option Bool} {dd : Option Addr} {k0 k1 k2 k3 k5 : Option Value} {Q : Value → Shared → Prop}
    (hmw : h.get? mw = some (mwObj e)) (he : h.get? e = some { cls := .ref 34, data := .fields #[.ref ta, .none, .none, .none, .bool false, .none] })
    (hC : h.get? 34 = some (excClassObj nm q 34 N bs [.type "Exception", .type "BaseException", .type "object"] hdct sn sub ab col dd k0 k1 k2 k3 k5 "Exception.__new__"))
    (hq : Q .none ⟨(h.push { cls := .type "tuple", data := .seq #[.str text tt] }).update e (Obj.mapFields (·.setIfInBounds 0 (.ref h.objs.size))), g, d, t, os⟩) :
    wpAny (model prog w) A (call (.ref mw) [.str text tt]) Q E ⟨h, g, d, t, os⟩ := by
  have F := PySem.F.excBase_Exception
  refine wpAny_call (codeAny_of_tree ?_)
  show wpAny _ _ (callAny (.ref mw) _) _ _ _
  unfold callAny
  repeat (first | with_reducible refine wpAny_loadPart_at hmw ?_ | wp_step)
  refine ⟨Code.quiet_builtin _ (by decide +kernel), codeAny_builtin F.initEntry ?_⟩
  show wpAny _ _ (Builtin.«BaseException.__init__» ⟨[.ref e, .str text tt], []⟩) _ _ _
  wp_walk
  exact hq
end

end

section
theorem mgN_of {K : Frag} {h : Heap} {N : Addr} {mg : Str → Option Value} {n : Str} {v : Value} (X : K.In h) (G : h.Ns N mg) (e : nsIn K N n = some (some v)) : mg n = some v := by
  obtain ⟨o, es, ep, ho, hd, _, hf⟩ := G
  unfold nsIn at e
  split at e
  · rename_i c d es' n' sl q
    have := X _ _ q
    rw [ho] at this
    cases this
    cases hd
    split at e
    · rename_i he
      rw [← hf]
      unfold nsFind findBy
      rw [← Array.find?_toList, he]
      cases e
      rfl
    · split at e <;> cases e
  · cases e
theorem look_of {K : Frag} {h : Heap} {a : Addr} {o : Obj} (X : K.In h) (e : K.lookup a = some o) : h.get? a = some o := X _ _ e
structure ExcCls (h : Heap) (fI : Addr) : Prop where
  it : ∃ nm q N bs sn sub ab col dd k0 k1 k2 k3 k5 mN oI, h.get? 34 = some (excClassObj nm q 34 N bs [.type "Exception", .type "BaseException", .type "object"] true sn sub ab col dd k0 k1 k2 k3 k5 "Exception.__new__") ∧
    h.Ns N mN ∧ mN "__init__" = some (.ref fI) ∧ h.get? fI = some oI ∧ oI.cls = .type "function" ∧ mN "__setattr__" = none ∧ mN "number" = none ∧ mN "told" = none ∧ mN "__getattribute__" = none ∧ mN "__getattr__" = none
theorem ExcCls.opn {h : Heap} {fI : Addr} {G : Prop} (C : ExcCls h fI) (k : ∀ nm q N bs sn sub ab col dd k0 k1 k2 k3 k5 mN oI, h.get? 34 = some (excClassObj nm q 34 N bs [.type "Exception", .type "BaseException", .type "object"] true sn sub ab col dd k0 k1 k2 k3 k5 "Exception.__new__") →
    h.Ns N mN → mN "__init__" = some (.ref fI) → h.get? fI = some oI → oI.cls = .type "function" → mN "__setattr__" = none → mN "number" = none → mN "told" = none → mN "__getattribute__" = none → mN "__getattr__" = none → G) : G := by
  obtain ⟨nm, q, N, bs, sn, sub, ab, col, dd, k0, k1, k2, k3, k5, mN, oI, e1, e2, e3, e4, e5, e6, e7, e8, e9, e10⟩ := C.it
  exact k nm q N bs sn sub ab col dd k0 k1 k2 k3 k5 mN oI e1 e2 e3 e4 e5 e6 e7 e8 e9 e10
theorem exc_pack {K : Frag} {h : Heap} {nm q : Str} {N fI : Addr} {bs sub : List Value} {ab : Bool} {sn : List Str} {col : Option Bool} {dd : Option Addr} {k0 k1 k2 k3 k5 : Option Value} {oI : Obj} (X : K.In h)
    (hC : K.lookup 34 = some (excClassObj nm q 34 N bs [.type "Exception", .type "BaseException", .type "object"] true sn sub ab col dd k0 k1 k2 k3 k5 "Exception.__new__"))
    (hn : nsOkIn K N = true) (hi : nsIn K N "__init__" = some (some (.ref fI))) (hf : K.lookup fI = some oI) (hc : oI.cls = .type "function")
    (e1 : nsIn K N "__setattr__" = some none) (e2 : nsIn K N "number" = some none) (e3 : nsIn K N "told" = some none) (e4 : nsIn K N "__getattribute__" = some none) (e5 : nsIn K N "__getattr__" = some none) : ExcCls h fI :=
  ⟨⟨nm, q, N, bs, sn, sub, ab, col, dd, k0, k1, k2, k3, k5, h.nsMap N, oI, look_of X hC, .of_isNs (isNs_of_in X hn), mgN_of X (.of_isNs (isNs_of_in X hn)) hi, look_of X hf, hc, nsMap_none_of_in X hn e1, nsMap_none_of_in X hn e2, nsMap_none_of_in X hn e3, nsMap_none_of_in X hn e4, nsMap_none_of_in X hn e5⟩⟩
theorem exc_obj {w : World} {h : Heap} (X : (hd.heap_1 w.params).In h) : ExcCls h 31 := by
  revert X
  refine (fun (f : PySem.Challenge.rw_np0298_01.row.prog = PySem.Challenge.rw_np0298_01.row.prog → _) => f rfl) ?_
  k_fill
  intro _ X
  refine' exc_pack X ?ho ?hn ?hi ?hf ?hc ?e1 ?e2 ?e3 ?e4 ?e5
  case ho => k_is
  case hn => kernel_rfl
  case hi => k_is
  case hf => k_is
  case hc => rfl
  all_goals k_is

end

section
theorem ei_lk_number : typeLookup (.type "Exception") "number" = pure none := by rw [typeLookup_type, builtinLookup_eq_fast]; kernel_rfl
theorem ei_lk_told : typeLookup (.type "Exception") "told" = pure none := by rw [typeLookup_type, builtinLookup_eq_fast]; kernel_rfl
theorem putL_len (name : Str) (hsh : Int) (key v : Value) : ∀ es : List DictEntry, (putL name hsh key v es).length ≤ es.length + 1 := by
  intro es
  induction es with
  | nil => simp [putL]
  | cons a es ih => unfold putL; split <;> simp <;> omega
section
variable {prog : Program} {w : World} {A : Around} {E : Value → Shared → Prop} {h : Heap} {g : Array GenState} {d : Drawn} {t : Nat} {os : OsState}
open Builtin.ObjectAttr Builtin in
theorem ei_put {dx : Addr} {es : List DictEntry} {n : Nat} {name : Str} {tk : Tok} {v : Value} {Q : Fin → Shared → Prop}
    (hd : h.get? dx = some (dictOf es n)) (hno : es.any (·.refKey) = false) (hz : es.length ≤ 900)
    (hq : Q (.done (.ret .none)) ⟨h.update dx (Obj.putName name (PyData.keyHash w.params name) (.str name t) v), g, d, t + 1, os⟩) :
    wpAny (model prog w) A (storeInDict dx (.str name tk) name v) Q E ⟨h, g, d, t, os⟩ := by
  unfold storeInDict newKeyGuard nsSet
  refine wpAny_bind (wpAny_pure (wpAny_bind (wpAny_bind (wpAny_bind (wpAny_askSetting (wpAny_pure (wpAny_bind (wpAny_mkText (wpAny_bind (wpAny_loadPart hd ?_))))))))))
  show wpAny _ _ (if aRefKeyMayBeTheName name es.toArray = true then _ else _) _ _ _
  rw [aRefKeyMayBeTheName_at, show es.toArray.any (·.refKey) = false from by rw [← Array.any_toList]; exact hno, Bool.and_false, if_neg (by decide)]
  refine wpAny_updatePart hd ?_
  have D' := Heap.get?_update_self (Obj.putName name (PyData.keyHash w.params name) (.str name t) v) hd (by rw [putName_dict]; rfl)
  rw [putName_dict] at D'
  have hl := putL_len name (PyData.keyHash w.params name) (.str name t) v es
  refine wpAny_bind (wpAny_lookBehind D' (pastItsLine_dict (by rw [List.size_toArray, sizeLine_eq]; omega)) ?_)
  exact wpAny_pure hq
theorem ei_entry {B sa owner : String} {bm : List Value} {newId nm q : Str} {N e : Addr} {bs : List Value} {sn : List Str} {sub : List Value} {ab : Bool} {col : Option Bool} {dd : Option Addr} {k0 k1 k2 k3 k5 : Option Value} {newI : String} {mN : Str → Option Value} {eo : Obj} {vs : Array Value} {name : Str} {v : Value} {tk : Tok} {Q : Fin → Shared → Prop} (SF : StoreFacts B bm sa owner)
    (hC : h.get? 34 = some (excClassObj nm q 34 N bs bm true sn sub ab col dd k0 k1 k2 k3 k5 newI)) (hN : h.Ns N mN) (hna' : mN name = none) (hB : typeLookup (.type B) name = pure none) (hx : h.get? e = some eo) (hc : eo.cls = .ref 34) (hdat : eo.data = .fields vs)
    (hq0 : eo.dict = none → Q (.done (.ret .none)) ⟨((h.push (dictOf [] 0)).update e fun o => { o with dict := some h.objs.size }).update h.objs.size (Obj.putName name (PyData.keyHash w.params name) (.str name t) v), g, d, t + 1, os⟩)
    (hq1 : ∀ dx, eo.dict = some dx → ∃ es n, h.get? dx = some (dictOf es n) ∧ es.any (·.refKey) = false ∧ es.length ≤ 900 ∧ Q (.done (.ret .none)) ⟨h.update dx (Obj.putName name (PyData.keyHash w.params name) (.str name t) v), g, d, t + 1, os⟩) :
    wpAny (model prog w) A (Builtin.«object.__setattr__» ⟨[.ref e, .str name tk, v], []⟩) Q E ⟨h, g, d, t, os⟩ := by
  have hpass := SF.passes (.ref e)
  unfold Builtin.«object.__setattr__»
  repeat (first | rw [refuse_eq] | (rw [refuseLoop_ref, hpass]) | (with_reducible refine wpAny_loadPart_at hx ?_; rw [hc]) | with_reducible refine wpAny_mroOf_exc hC ?_ | (with_reducible refine wpAny_typeLookup_exc hC hN SF.mro hB ?_; rw [hna']) | wp_step)
  cases hdn : eo.dict with
  | none =>
    dsimp only
    rw [if_neg (by simp [typeHasDict])]
    rw [hdat]
    dsimp only
    have hx₁ : (h.push (dictOf [] 0)).get? e = some eo := Heap.get?_push_of_some _ hx
    have hxs : e ≠ h.objs.size := Nat.ne_of_lt (Heap.lt_size hx)
    refine wpAny_bind (wpAny_alloc' ?_)
    refine wpAny_bind (wpAny_update' hx₁ ?_)
    refine wpAny_pure ?_
    have hgd : ((h.push (dictOf [] 0)).update e fun o => { cls := o.cls, dict := some h.objs.size, data := o.data, slots := o.slots }).get? h.objs.size
        = some (dictOf [] 0) :=
      (Heap.get?_update_ne _ _ _ _ hxs.symm).trans (Heap.get?_push_at rfl rfl)
    exact ei_put hgd rfl (by decide) (hq0 hdn)
  | some dx =>
    obtain ⟨es, n, hd, hno, hl, hq⟩ := hq1 dx hdn
    refine wpAny_pure ?_
    exact ei_put hd hno hl hq
theorem ei_store_gen {B sa owner : String} {bm : List Value} {nm q : Str} {N e : Addr} {bs : List Value} {sn : List Str} {sub : List Value} {ab : Bool} {col : Option Bool} {dd : Option Addr} {k0 k1 k2 k3 k5 : Option Value} {newI : String} {mN : Str → Option Value} {eo : Obj} {vs : Array Value} {name : Str} {v : Value} {tk : Tok} {R : Result → Shared → Prop} (SF : StoreFacts B bm sa owner)
    (hC : h.get? 34 = some (excClassObj nm q 34 N bs bm true sn sub ab col dd k0 k1 k2 k3 k5 newI)) (hN : h.Ns N mN) (hna' : mN name = none) (hB : typeLookup (.type B) name = pure none) (hx : h.get? e = some eo) (hc : eo.cls = .ref 34) (hdat : eo.data = .fields vs)
    (hq0 : eo.dict = none → R (.ok (.ret .none)) ⟨((h.push (dictOf [] 0)).update e fun o => { o with dict := some h.objs.size }).update h.objs.size (Obj.putName name (PyData.keyHash w.params name) (.str name t) v), g, d, t + 1, os⟩)
    (hq1 : ∀ dx, eo.dict = some dx → ∃ es n, h.get? dx = some (dictOf es n) ∧ es.any (·.refKey) = false ∧ es.length ≤ 900 ∧ R (.ok (.ret .none)) ⟨h.update dx (Obj.putName name (PyData.keyHash w.params name) (.str name t) v), g, d, t + 1, os⟩) :
    codeAny (model prog w) A (.call (.builtin sa) ⟨[.ref e, .str name tk, v], []⟩) R ⟨h, g, d, t, os⟩ :=
  codeAny_call_builtin SF.slot.plain SF.entry (wpAny_check_sa SF hC hx hc (ei_entry (newId := nm) SF hC hN hna' hB hx hc hdat hq0 hq1))
theorem ei_store_call {e : Addr} {eo : Obj} {vs : Array Value} {name : Str} {v : Value} {tk : Tok} {R : Result → Shared → Prop} (C : ExcCls h 31) (hx : h.get? e = some eo) (hc : eo.cls = .ref 34) (hdat : eo.data = .fields vs)
    (hna : name = "number" ∨ name = "told")
    (hq0 : eo.dict = none → R (.ok (.ret .none)) ⟨((h.push (dictOf [] 0)).update e fun o => { o with dict := some h.objs.size }).update h.objs.size (Obj.putName name (PyData.keyHash w.params name) (.str name t) v), g, d, t + 1, os⟩)
    (hq1 : ∀ dx, eo.dict = some dx → ∃ es n, h.get? dx = some (dictOf es n) ∧ es.any (·.refKey) = false ∧ es.length ≤ 900 ∧ R (.ok (.ret .none)) ⟨h.update dx (Obj.putName name (PyData.keyHash w.params name) (.str name t) v), g, d, t + 1, os⟩) :
    codeAny (model prog w) A (.call (.builtin "object.__setattr__") ⟨[.ref e, .str name tk, v], []⟩) R ⟨h, g, d, t, os⟩ := by
  refine ExcCls.opn C fun nm q N bs sn sub ab col dd k0 k1 k2 k3 k5 mN oI hC hN _ _ _ hns hn1 hn2 _ _ => ?_
  have hna' : mN name = none := by rcases hna with rfl | rfl <;> assumption
  have hB : typeLookup (.type "Exception") name = pure none := by rcases hna with rfl | rfl; exact ei_lk_number; exact ei_lk_told
  exact ei_store_gen PySem.F.store_Exception hC hN hna' hB hx hc hdat hq0 hq1
theorem ei_store {e : Addr} {eo : Obj} {vs : Array Value} {name : Str} {v : Value} {Q : Unit → Shared → Prop} (C : ExcCls h 31) (hx : h.get? e = some eo) (hc : eo.cls = .ref 34) (hdat : eo.data = .fields vs)
    (hna : name = "number" ∨ name = "told")
    (hq0 : eo.dict = none → Q () ⟨((h.push (dictOf [] 0)).update e fun o => { o with dict := some h.objs.size }).update h.objs.size (Obj.putName name (PyData.keyHash w.params name) (.str name (t + 1)) v), g, d, t + 2, os⟩)
    (hq1 : ∀ dx, eo.dict = some dx → ∃ es n, h.get? dx = some (dictOf es n) ∧ es.any (·.refKey) = false ∧ es.length ≤ 900 ∧ Q () ⟨h.update dx (Obj.putName name (PyData.keyHash w.params name) (.str name (t + 1)) v), g, d, t + 2, os⟩) :
    wpAny (model prog w) A (setAttr (.ref e) name v) Q E ⟨h, g, d, t, os⟩ := by
  have SF := PySem.F.store_Exception
  have f3 := SF.slot.bind (.ref e)
  have C' := C
  refine ExcCls.opn C fun nm q N bs sn sub ab col dd k0 k1 k2 k3 k5 mN oI hC hN _ _ _ hns _ _ _ _ => ?_
  refine wpAny_bind (wpAny_mkText (wpAny_bind ?_))
  unfold callSpecial? specialOf
  repeat (first | (with_reducible refine wpAny_loadPart_at hx ?_; rw [hc]) | (with_reducible refine wpAny_typeLookup_exc hC hN SF.mro SF.slot.lookup ?_; rw [hns]) | wp_step)
  exact ei_store_call C' hx hc hdat hna (fun e => wpAny_pure (wpAny_pure (hq0 e))) (fun dx e => let ⟨es, n, a, b, c, r⟩ := hq1 dx e; ⟨es, n, a, b, c, wpAny_pure (wpAny_pure r)⟩)
end

end

section
section
variable {prog : Program} {w : World} {A : Around} {E : Value → Shared → Prop} {s : Shared} {h₀ : Heap} {L e : Addr} {m : Str → Option Value} {rest : List (Addr × Obj)} {K : Frag} {eo : Obj}
theorem upd_at {h : Heap} {f : Obj → Obj} (F : Fr h₀ L h m) (N : News h₀ L h ((e, eo) :: rest)) (hr : ∀ p ∈ rest, p.1 ≠ e) (hf : (f eo).isFreed = false) : Fr h₀ L (h.update e f) m ∧ News h₀ L (h.update e f) ((e, f eo) :: rest) :=
  news_upd (pre := []) (post := rest) (f := f) F N (fun _ q => by cases q) hr rfl hf
theorem push_at {o : Obj} (F : Fr h₀ L s.heap m) (N : News h₀ L s.heap rest) (hnf : o.isFreed = false) : Fr h₀ L (s.heap.push o) m ∧ News h₀ L (s.heap.push o) ((s.heap.objs.size, o) :: rest) ∧ ∀ p ∈ rest, p.1 ≠ s.heap.objs.size :=
  have ⟨a, b, c⟩ := ks_newsPush (s := s) F N rfl (Heap.get?_push_at rfl hnf) (fun _ _ e => Heap.get?_push_of_some _ e)
  ⟨a, b, fun p hp => Nat.ne_of_lt (c p hp)⟩
theorem ei_mg {so : Addr} {pl : Sem Bool} {Q : Value × List Value → Shared → Prop} (F : Fr h₀ L s.heap m) (X₀ : K.In h₀) (N : News h₀ L s.heap ((so, ks_superObj 34 e 34) :: (e, eo) :: rest)) (ho : nsIn K cStatics "thirdparty.any" = some none)
    (hs : ks_superIn K 34 34 "__init__" = some (some (.builtin "Exception.__init__"))) (hsub : subIn K (.ref 34) (.type "Exception") = some true) (hec : eo.cls = .ref 34) (hne : e ≠ 34)
    (h : ∀ mw h', Fr h₀ L h' m → News h₀ L h' ((mw, mwObj e) :: (e, eo) :: rest) → Q (.ref mw, []) { s with heap := h', toks := s.toks + 1 }) : wpAny (model prog w) A (getMethod (.ref so) "__init__" pl) Q E s := by
  have X : K.In s.heap := X₀.keeps F.keep
  obtain ⟨F', N', -⟩ := push_at (o := mwObj e) F (ncons N) rfl
  cases hc : clsIn K 34 with
  | none => unfold ks_superIn at hs; rw [hc] at hs; cases hs
  | some cd =>
    unfold ks_superIn at hs
    rw [hc] at hs
    obtain ⟨hh, g, d, t, os⟩ := s
    exact ei_getMethod (N _ (.head _)).1 (looks_opaque X ho) (l₀ := cd.mro) (fun A Q E s k q => wpAny_bind ((looks_clsIn X hc) A _ E s k (wpAny_pure q))) rfl X hs (N _ (.tail _ (.head _))).1 hec hne (looks_subIn X hsub) (h _ _ F' N')
theorem ei_c {mw ta : Addr} {text : Str} {tt : Tok} {Q : Value → Shared → Prop} (C : ExcCls h₀ 31) (F : Fr h₀ L s.heap m) (N : News h₀ L s.heap ((mw, mwObj e) :: (e, ({ cls := .ref 34, data := .fields #[.ref ta, .none, .none, .none, .bool false, .none] } : Obj)) :: rest)) (hr : ∀ p ∈ rest, p.1 ≠ e)
    (h : ∀ tb h', Fr h₀ L h' m → News h₀ L h' ((e, ({ cls := .ref 34, data := .fields #[.ref tb, .none, .none, .none, .bool false, .none] } : Obj)) :: rest) → Q .none { s with heap := h' }) :
    wpAny (model prog w) A (call (.ref mw) [.str text tt]) Q E s := by
  refine ExcCls.opn C fun nm q NN bs sn' sub ab col dd k0 k1 k2 k3 k5 mN oI hC _ _ _ _ _ _ _ _ _ => ?_
  obtain ⟨F', N', hp⟩ := push_at (o := { cls := .type "tuple", data := .seq #[.str text tt] }) F (ncons N) rfl
  obtain ⟨F'', N''⟩ := upd_at (e := e) (f := Obj.mapFields (·.setIfInBounds 0 (.ref s.heap.objs.size))) F' (rest := rest) (fun p hp => by
    rcases List.mem_cons.mp hp with rfl | hp
    · exact N' _ (.tail _ (.head _))
    · exact N' _ (.tail _ (.tail _ hp))) hr rfl
  obtain ⟨hh, g, d, t, os⟩ := s
  exact ei_call (N _ (.head _)).1 (N _ (.tail _ (.head _))).1 (F.keep _ _ hC) (h _ _ F'' N'')
theorem ExcCls.keeps {h h' : Heap} (C : ExcCls h 31) (k : ∀ b o, h.get? b = some o → h'.get? b = some o) : ExcCls h' 31 := by
  obtain ⟨nm, q, N, bs, sn, sub, ab, col, dd, k0, k1, k2, k3, k5, mN, oI, hC, ⟨o, es, ep, e1, r⟩, hi, hf, r'⟩ := C
  exact ⟨⟨nm, q, N, bs, sn, sub, ab, col, dd, k0, k1, k2, k3, k5, mN, oI, k _ _ hC, ⟨o, es, ep, k _ _ e1, r⟩, hi, k _ _ hf, r'⟩⟩
theorem ei_s0 {vs : Array Value} {name : Str} {v : Value} {Q : Unit → Shared → Prop} (C : ExcCls h₀ 31) (F : Fr h₀ L s.heap m) (N : News h₀ L s.heap ((e, (⟨.ref 34, none, .fields vs, #[]⟩ : Obj)) :: rest)) (hr : ∀ p ∈ rest, p.1 ≠ e) (hna : name = "number" ∨ name = "told")
    (h : ∀ dx h', Fr h₀ L h' m → News h₀ L h' ((dx, dictOf [⟨PyData.keyHash w.params name, .str name (s.toks + 1), v⟩] 1) :: (e, (⟨.ref 34, some dx, .fields vs, #[]⟩ : Obj)) :: rest) → (∀ p ∈ rest, p.1 ≠ dx) → e ≠ dx → Q () { s with heap := h', toks := s.toks + 2 }) :
    wpAny (model prog w) A (setAttr (.ref e) name v) Q E s := by
  obtain ⟨F', N', hp⟩ := push_at (o := dictOf [] 0) F N rfl
  have he : e ≠ s.heap.objs.size := hp _ (.head _)
  obtain ⟨F'', N''⟩ := upd_at (e := e) (rest := (s.heap.objs.size, dictOf [] 0) :: rest) (f := fun o => { o with dict := some s.heap.objs.size }) F' (fun p hp => by
    rcases List.mem_cons.mp hp with rfl | hp
    · exact N' _ (.tail _ (.head _))
    · rcases List.mem_cons.mp hp with rfl | hp
      · exact N' _ (.head _)
      · exact N' _ (.tail _ (.tail _ hp))) (fun p hp => by
    rcases List.mem_cons.mp hp with rfl | hp
    · exact he.symm
    · exact hr p hp) rfl
  obtain ⟨F3, N3⟩ := upd_at (e := s.heap.objs.size) (eo := dictOf [] 0) (rest := (e, (⟨.ref 34, some s.heap.objs.size, .fields vs, #[]⟩ : Obj)) :: rest) (f := Obj.putName name (PyData.keyHash w.params name) (.str name (s.toks + 1)) v) F'' (fun p hp => by
    rcases List.mem_cons.mp hp with rfl | hp
    · exact N'' _ (.tail _ (.head _))
    · rcases List.mem_cons.mp hp with rfl | hp
      · exact N'' _ (.head _)
      · exact N'' _ (.tail _ (.tail _ hp))) (fun p q => by
    rcases List.mem_cons.mp q with rfl | q
    · exact he
    · exact hp p (.tail _ q)) (by rw [putName_dict]; rfl)
  rw [putName_dict] at N3
  obtain ⟨hh, g, d, t, os⟩ := s
  exact ei_store (C.keeps F.keep) (N _ (.head _)).1 rfl rfl hna (fun _ => h _ _ F3 N3 (fun p q => hp p (.tail _ q)) he) (fun dx e => by cases e)
theorem ei_s1 {dx : Addr} {es : List DictEntry} {n : Nat} {vs : Array Value} {name : Str} {v : Value} {Q : Unit → Shared → Prop} (C : ExcCls h₀ 31) (F : Fr h₀ L s.heap m) (N : News h₀ L s.heap ((dx, dictOf es n) :: (e, (⟨.ref 34, some dx, .fields vs, #[]⟩ : Obj)) :: rest)) (hr : ∀ p ∈ rest, p.1 ≠ dx) (he : e ≠ dx) (hna : name = "number" ∨ name = "told")
    (hno : es.any (·.refKey) = false) (hl : es.length ≤ 900)
    (h : ∀ h', Fr h₀ L h' m → News h₀ L h' ((dx, dictOf (putL name (PyData.keyHash w.params name) (.str name (s.toks + 1)) v es) (putN name es n)) :: (e, (⟨.ref 34, some dx, .fields vs, #[]⟩ : Obj)) :: rest) → Q () { s with heap := h', toks := s.toks + 2 }) :
    wpAny (model prog w) A (setAttr (.ref e) name v) Q E s := by
  obtain ⟨F3, N3⟩ := upd_at (e := dx) (f := Obj.putName name (PyData.keyHash w.params name) (.str name (s.toks + 1)) v) F N (fun p q => by
    rcases List.mem_cons.mp q with rfl | q
    · exact he
    · exact hr p q) (by rw [putName_dict]; rfl)
  rw [putName_dict] at N3
  obtain ⟨hh, g, d, t, os⟩ := s
  exact ei_store (C.keeps F.keep) (N _ (.tail _ (.head _))).1 rfl rfl hna (fun z => by cases z) (fun dx' z => by cases z; exact ⟨es, n, (N _ (.head _)).1, hno, hl, h _ F3 N3⟩)
end
theorem ei_cw {M : Model} {A : Around} {E : Value → Shared → Prop} {s : Shared} {pos : Pos} {mw e : Addr} {env : Env} {ex : Expr} {Q : Value → Shared → Prop}
    (h : wpAny M A (spliced (backTo pos (starEach [ex] env))) (fun vs s₁ => s₁.heap.get? mw = some (mwObj e) ∧ wpAny M A (call (.ref mw) vs) Q E s₁) E s)
    (he : starEach [ex] env = (false, eval ex env) :: starEach [] env := by rfl) (hplain : (backTo pos (starEach [] env)).any (·.1) = false := by rfl) :
    wpAny M A (callWith pos (.ref mw) [] (backTo pos (starEach [ex] env)) []) Q E s := by
  rw [he] at h ⊢
  have h' : wpAny M A (evalArgs (.ref mw) true (backTo pos ((false, eval ex env) :: starEach [] env)) []) (fun x s₁ => s₁.heap.get? mw = some (mwObj e) ∧ wpAny M A (call (.ref mw) ([] ++ x.pos) x.kw) Q E s₁) E s := Calls.evalArgs_plain h
  unfold callWith
  refine wpAny_bind (wpAny_holding (wpAny_mono h' (fun x s₁ h₁ => wpAny_bind (wpAny_standAt ?_)) fun _ _ x => x))
  obtain ⟨ho, hcall⟩ := h₁
  have hp : (backTo pos ((false, eval ex env) :: starEach [] env)).any (·.1) = false := by show (false || (backTo pos (starEach [] env)).any (·.1)) = false; rw [hplain]; rfl
  simp only [hp, List.any_nil, Bool.or_false]
  refine wpAny_bind (m := keeperOf (.ref mw)) ?_
  unfold keeperOf
  refine wpAny_bind (wpAny_load ho ?_)
  simp only [mwObj, show (Value.type "method-wrapper" != Value.type "method") = true by decide, show (Value.type "method-wrapper" == Value.type "builtin_function_or_method" || Value.type "method-wrapper" == Value.type "method-wrapper") = true by decide, if_true]
  refine wpAny_pure ?_
  exact wpAny_bind (wpAny_mono hcall (fun r s₂ hr => wpAny_bind (wpAny_holding (wpAny_point (wpAny_pure hr)))) fun _ _ x => x)
theorem inst_exc {h : Heap} {e : Addr} {eo : Obj} {vs : Array Value} (hx : h.get? e = some eo) (hc : eo.cls = .ref 34) (hdat : eo.data = .fields vs) (hd : eo.dict = none) : InstAt h e eo 34 none :=
  ⟨hx, hc, by obtain ⟨_, _, dt, _⟩ := eo; cases hdat; rfl, by rw [hd]; trivial⟩
theorem exc_new {w : World} {A₀ : Around} {outer : List Env} {base h₀ : Heap} {L a : Addr} {m : Str → Option Value} {news : List (Addr × Obj)} {s : Shared} {E Q : Value → Shared → Prop} {mean : ExcName → Option Value} {mg mb : Str → Option Value}
    {cn : Str} {sn : List (Str × NameKind)} {sg sc : Bool} {sm : List (Str × Const)} {ccd : Value} {cl : List (Str × Addr)} {k : Int} {t t' : Tok} {told : Str}
    (B : Below A₀ base outer h₀) (F : Fr h₀ L s.heap m) (X : (hd.heap_1 w.params).In h₀) (N : News h₀ L s.heap news) (T : Top topProg LS mean mg mb h₀) 
    (hret : ∀ e dx tb h' tk' t1 t2, Fr h₀ L h' m → News h₀ L h' ((dx, dictOf [ent w "number" t1 (.int k t), ent w "told" t2 (.str told t')] 2) :: (e, (⟨.ref 34, some dx, .fields #[.ref tb, .none, .none, .none, .bool false, .none], #[]⟩ : Obj)) :: news) → (∀ p ∈ news, p.1 ≠ e) →
      Q (.ref e) { s with heap := h', toks := tk' }) :
    wpAny (model PySem.Challenge.rw_np0298_01.row.prog w) (ktrTop 750 1200 none cn ⟨.function, sn, sg, sc, sm⟩ L a ccd cl outer) (call (.ref 34) [.int k t, .str told t']) Q E s := by
  revert X
  k_fill
  intro X
  have C := exc_obj (X.keeps F.keep)
  refine ExcCls.opn C fun nm q NN bs sn' sub ab col dd k0 k1 k2 k3 k5 mN oI hC hN hi hf hc _ _ _ _ _ => ?_
  obtain ⟨hh, gg, dr, tk, os⟩ := s
  refine wpAny_call_exc_init (PySem.F.excBase_Exception) hC hN hi hf hc (fun h' e hm => ?_)
  obtain ⟨ta, he, hta, hta'⟩ := hm.there
  have F' := F.keeps hm.keeps
  have N' := News.more F' (News.keeps N hm.keeps) he (fun es n q => by cases q) (fresh_base F hm.new)
  clear hC hN hi hf hc
  have I := inst_exc he rfl rfl rfl
  refine wpAny_call ?_
  ((refine' ks_code_super ?k1 ?k2 ?k3 ?k4 ?k5 ?kA ?kF ?kK ?k6 ?k7 ?k8 ?k9 ?kB ?_ ?c1 ?c2 ?c3 ?c4; (case kA => exact rfl); (case kF => exact rfl); (case kK => exact rfl); (case k1 => k_asm); (case k2 => k_asm); (case k3 => k_asm); (case k4 => k_asm); (case k5 => k_asm); (case k6 => k_is); (case k7 => k_is); (case k8 => k_room); (case k9 => first | exact binds_K (by k_in) rfl (by k_is) rfl rfl rfl | exact BindsTo.of_eq rfl); (case kB => exact locs rfl); (case c1 => decide); (case c2 => exact rfl); (case c3 => exact rfl); (case c4 => exact rfl); intro g1 L1 h1 FG1 F1 N1 B1 X1 T1 l1; (try k_lt l1); (try dsimp only); (try k_lift B1)))
  refine ks_wpAt_execs_cons ?_
  refine ks_wpAt_Expr_any ?_
  refine ks_wpAt_MethodCall ?_
  refine' ks_node F1 X1 N1 T1 ?a1 ?a2 ?a3 (inst_exc (N1 _ (.head _)).1 rfl rfl rfl) ?a4 ?a5 ?a6 ?a7 ?a8 ?a9 ?b1 ?b2 ?b3 ?b4 ?b5 ?b6 ?b7 ?b8 ?_
  case a1 => k_is
  case a2 => exact rfl
  case a3 => exact rfl
  case a4 => k_is
  case a5 => exact rfl
  case a6 => first | rfl | decide +kernel
  case a7 => k_is
  case a8 => k_is
  case a9 => k_is
  case b1 => k_is
  case b2 => decide
  case b3 => exact rfl
  case b4 => exact rfl
  case b5 => exact rfl
  case b6 => exact rfl
  case b7 => decide +kernel
  case b8 => boot_by_name
  intro so h2 F2 N2 l2
  have C1 := exc_obj X1
  have hne : e ≠ 34 := fun q => by
    refine ExcCls.opn C1 fun nm q' NN bs sn' sub ab col dd k0 k1 k2 k3 k5 mN oI hC _ _ _ _ _ _ _ _ _ => ?_
    have z := (N1 _ (.head _)).2.2
    rw [show (e, _).1 = e from rfl, q, hC] at z; cases z
  refine' ei_mg F2 X1 N2 ?a1 ?a2 ?a3 rfl hne ?_
  case a1 => k_is
  case a2 => ks_is
  case a3 => k_is
  intro mw h3 F3 N3
  dsimp only
  refine ei_cw (e := e) ?_
  have hr : ∀ p ∈ news, p.1 ≠ e := fun p hp q => by
    have z := (N p hp).1
    rw [q, hm.new] at z; cases z
  k_steps
  · exact (N3 _ (.head _)).1
  refine ei_c C1 F3 N3 hr ?_
  intro tb h4 F4 N4
  dsimp only
  refine wpAt_of_wpAny ?_
  repeat' (first | (k_unfold; (try dsimp only)) | dsimp only | (k_end; wrow_close) | walk1 | (leave1; try dsimp only))
  refine ei_s0 C1 F4 N4 hr (.inl rfl) ?_
  intro dx h5 F5 N5 hd5 hed
  repeat' (first | (k_unfold; (try dsimp only)) | dsimp only | (k_end; wrow_close) | walk1 | (leave1; try dsimp only))
  refine ei_s1 C1 F5 N5 hd5 hed (.inr rfl) rfl (by simp) ?_
  intro h6 F6 N6
  repeat' (first | (k_unfold; (try dsimp only)) | dsimp only | (k_end; wrow_close) | walk1 | (leave1; try dsimp only))
  refine' hret e dx tb h6 _ ?_ ?_ (by with_reducible assumption) ?_ hr
  rotate_right 1
  · rename News h₀ L _ (_ :: _ :: _) => lN
    exact lN

end

section
/-- the exception e, its dict d, on its way through the frames l -/
structure FlD (base : Heap) (l : List Env) (e d : Addr) (fl : Value) (h : Heap) : Prop where
  stays : base.StaysIn h
  new : base.get? e = none
  frames : h.FunFrames base l
  tr : ∃ oe vs T oT ts, h.get? e = some oe ∧ oe.cls = .ref 34 ∧ oe.dict = some d ∧ oe.data = .fields vs ∧ vs[1]? = some (.ref T) ∧ base.get? T = none ∧ T ≠ e ∧ h.get? T = some oT ∧ oT.data = .fields ts ∧ ts[3]? = some fl
theorem uts_notFields {h : Heap} {a b : Addr} {o o' : Obj} {vs : Array Value} (ha : h.get? a = some o) (hd : o.data = .fields vs) (hb : h.get? b = some o') (hn : ∀ vs, o'.data ≠ .fields vs) : b ≠ a := by
  rintro rfl
  rw [ha] at hb
  cases hb
  exact hn _ hd
section
variable {M : Model} {A : Around} {E : Value → Shared → Prop} {s : Shared} {base : Heap} {env : Env} {outer l : List Env} {L e d : Addr} {Q : Unit → Shared → Prop}
theorem fl_entry {oe : Obj} {vs : Array Value} {head : Value} {hadNext : Bool} (hfr : A.frames = some (env :: outer)) (hl : s.heap.FunFrames base (env :: outer)) (hf : env.frame = some L)
    (he : s.heap.get? e = some oe) (hkb : base.StaysIn s.heap) (hen : base.get? e = none) (hc : oe.cls = .ref 34) (hdc : oe.dict = some d) (hd : oe.data = .fields vs) (hsz : 1 < vs.size)
    (h : ∀ h', FlD base (env :: outer) e d (rawInt L) h' → s.heap.UpToSlots h' → Q () { s with heap := h' }) :
    wpAny M A (do let a ← frameOf env; let pl ← entryPlaceOf L hadNext; let b ← EntryCells.newEntry head a .none (rawInt L) .none pl; setField (.ref e) 1 b) Q E s := by
  have notIn : e ∉ (env :: outer).filterMap (·.frame) := fun hm => by
    obtain ⟨_, o, ho, hnf⟩ := hl.mem hm
    rw [he] at ho; cases ho; exact hnf vs hd
  refine wpAny_bind (wpAny_frameOf_fun hfr hl hf fun h₁ hs₁ => ?_)
  refine wpAny_bind (wpAny_entryPlaceOf fun pl hpl => ?_)
  unfold EntryCells.newEntry newFields
  refine wpAny_bind (wpAny_newObj_type ?_ (hpl.sizeOk5 _ _ _ _ _))
  generalize ho : ({ cls := .type "traceback", dict := none, data := .fields ([head, .ref L, .none, rawInt L, .none] ++ (if pl.isEmpty then List.replicate 6 Value.none else pl)).toArray } : Obj) = tb
  have e1 : h₁.get? e = some oe := (hs₁.2.1 e notIn).trans he
  have k1 : base.StaysIn h₁ := fun b o q => (hs₁.2.1 b fun hm => by rw [(hl.mem hm).1] at q; cases q).trans (hkb b o q)
  have e2 : (h₁.push tb).get? e = some oe := Heap.get?_push_of_some _ e1
  refine wpAny_setField e2 hd hsz ?_
  have ne : h₁.objs.size ≠ e := Nat.ne_of_gt (Heap.lt_size e1)
  have hdata := Obj.data_mapFields hd (·.setIfInBounds 1 (Value.ref h₁.objs.size))
  have e3 := Heap.get?_update_self (Obj.mapFields (·.setIfInBounds 1 (Value.ref h₁.objs.size))) e2 (Obj.isFreed_of_fields hdata)
  have t3 : ((h₁.push tb).update e (Obj.mapFields (·.setIfInBounds 1 (Value.ref h₁.objs.size)))).get? h₁.objs.size = some tb :=
    (Heap.get?_update_other _ _ (Ne.symm ne)).trans (by subst ho; exact Heap.get?_push_size h₁ rfl)
  have kp : ∀ b o, b ≠ e → h₁.get? b = some o → ((h₁.push tb).update e (Obj.mapFields (·.setIfInBounds 1 (Value.ref h₁.objs.size)))).get? b = some o := fun b o q hb => by
    rw [Heap.get?_update_other _ _ (Ne.symm q)]
    exact Heap.get?_push_of_some _ hb
  refine h _ ⟨fun b o q => kp b o (fun z => by rw [z, hen] at q; cases q) (k1 b o q), hen, hl.of_keeps fun b o hb hnf => ?_, ?_⟩ fun b o hb hnf => ?_
  · obtain ⟨sl, hs⟩ := hs₁.2.2 b o hb
    exact ⟨_, kp b _ (uts_notFields he hd hb hnf) hs, rfl⟩
  · refine ⟨_, _, h₁.objs.size, tb, _, e3, (Obj.cls_mapFields _ _).trans hc, ?_, hdata, by simp [hsz], k1.fresh, ne, t3, by subst ho; rfl, ?_⟩
    · obtain ⟨c', d', dt', sl'⟩ := oe
      cases hd
      exact hdc
    · rcases hpl with rfl | ⟨_, _, _, _, _, _, _, rfl⟩ <;> simp
  · obtain ⟨sl, hs⟩ := hs₁.2.2 b o hb
    exact ⟨sl, kp b _ (uts_notFields he hd hb hnf) hs⟩
theorem fl_flight {fl : Value} (H : FlD base l e d fl s.heap) (h : ∀ h', FlD base l e d .none h' → s.heap.UpToSlots h' → Q () { s with heap := h' }) : wpAny M A (setFlight (.ref e) none) Q E s := by
  obtain ⟨k1, k2, k3, oe, vs, T, oT, ts, he, hc, hdc, hd, h1, hnT, hTe, hT, hdT, h3⟩ := H
  have h3' : 3 < ts.size := (Array.getElem?_eq_some_iff.mp h3).1
  unfold setFlight
  refine wpAny_bind (wpAny_field he hd h1 ?_)
  rw [if_pos (show (Value.ref T != Value.none) = true from by simp)]
  have other : ∀ b, b ≠ T → (s.heap.update T (Obj.mapFields (·.setIfInBounds 3 ((none : Option Addr).elim Value.none fun f => rawInt f)))).get? b = s.heap.get? b :=
    fun b hb => Heap.get?_update_other _ _ (Ne.symm hb)
  refine wpAny_setField hT hdT h3' (h _ ⟨fun b o q => (other b fun z => by rw [z, hnT] at q; cases q).trans (k1 b o q), k2, k3.of_keeps fun b o hb hnf => ⟨o, (other b (uts_notFields hT hdT hb hnf)).trans hb, rfl⟩, ?_⟩
    fun b o hb hnf => ⟨o.slots, (other b (uts_notFields hT hdT hb hnf)).trans hb⟩)
  exact ⟨oe, vs, T, _, _, (other e (Ne.symm hTe)).trans he, hc, hdc, hd, h1, hnT, hTe, Heap.get?_update_self _ hT (Obj.isFreed_of_fields (Obj.data_mapFields hdT _)), Obj.data_mapFields hdT _, by simp [h3']⟩
theorem fl_note0 {oe : Obj} {vs : Array Value} (hfr : A.frames = some (env :: outer)) (hl : s.heap.FunFrames base (env :: outer)) (hf : env.frame = some L)
    (he : s.heap.get? e = some oe) (hkb : base.StaysIn s.heap) (hen : base.get? e = none) (hc : oe.cls = .ref 34) (hdc : oe.dict = some d) (hd : oe.data = .fields vs) (h1 : vs[1]? = some .none)
    (h : ∀ h', FlD base (env :: outer) e d (rawInt L) h' → s.heap.UpToSlots h' → Q () { s with heap := h' }) : wpAny M A (noteFrame (.ref e) env) Q E s := by
  unfold noteFrame
  simp only [hf]
  refine wpAny_bind (wpAny_field he hd h1 ?_)
  rw [if_neg (by decide)]
  exact fl_entry hfr hl hf he hkb hen hc hdc hd (Array.getElem?_eq_some_iff.mp h1).1 h
theorem fl_note (hfr : A.frames = some (env :: outer)) (hf : env.frame = some L) (H : FlD base (env :: outer) e d .none s.heap)
    (h : ∀ h', FlD base (env :: outer) e d (rawInt L) h' → s.heap.UpToSlots h' → Q () { s with heap := h' }) : wpAny M A (noteFrame (.ref e) env) Q E s := by
  obtain ⟨k1, k2, k3, oe, vs, T, oT, ts, he, hc, hdc, hd, h1, hnT, hTe, hT, hdT, h3⟩ := H
  have h3' : 3 < ts.size := (Array.getElem?_eq_some_iff.mp h3).1
  unfold noteFrame
  simp only [hf]
  refine wpAny_bind (wpAny_field he hd h1 ?_)
  rw [if_pos (show (Value.ref T != Value.none) = true from by simp)]
  refine wpAny_bind (wpAny_field hT hdT h3 ?_)
  rw [if_neg (show ¬ ((Value.none == rawInt L) = true) from by simp [rawInt])]
  refine wpAny_bind (wpAny_setField hT hdT h3' ?_)
  have other : ∀ b, b ≠ T → (s.heap.update T (Obj.mapFields (·.setIfInBounds 3 Value.none))).get? b = s.heap.get? b := fun b hb => Heap.get?_update_other _ _ (Ne.symm hb)
  have keep : s.heap.UpToSlots (s.heap.update T (Obj.mapFields (·.setIfInBounds 3 Value.none))) := fun b o hb hnf => ⟨o.slots, (other b (uts_notFields hT hdT hb hnf)).trans hb⟩
  exact fl_entry hfr (k3.of_keeps fun b o hb hnf => ⟨o, (other b (uts_notFields hT hdT hb hnf)).trans hb, rfl⟩) hf ((other e (Ne.symm hTe)).trans he)
    (fun b o q => (other b fun z => by rw [z, hnT] at q; cases q).trans (k1 b o q)) k2 hc hdc hd (Array.getElem?_eq_some_iff.mp h1).1 fun h' x1 x2 => h h' x1 (keep.trans x2)
theorem FlD.out {fl : Value} {h : Heap} (H : FlD base (env :: outer) e d fl h) : FlD base outer e d fl h := ⟨H.stays, H.new, H.frames.2.2, H.tr⟩
theorem fl_leave0 {oe : Obj} {vs : Array Value} (hfr : A.frames = some (env :: outer)) (hl : s.heap.FunFrames base (env :: outer)) (hf : env.frame = some L)
    (he : s.heap.get? e = some oe) (hkb : base.StaysIn s.heap) (hen : base.get? e = none) (hc : oe.cls = .ref 34) (hdc : oe.dict = some d) (hd : oe.data = .fields vs) (h1 : vs[1]? = some .none)
    (h : ∀ h', FlD base outer e d .none h' → s.heap.UpToSlots h' → Q () { s with heap := h' }) : wpAny M A (leaving env (.ref e)) Q E s := by
  unfold leaving
  exact wpAny_bind (fl_note0 hfr hl hf he hkb hen hc hdc hd h1 fun h₁ x1 x2 => fl_flight x1 fun h' y1 y2 => h h' y1.out (x2.trans y2))
theorem fl_leave (hfr : A.frames = some (env :: outer)) (hf : env.frame = some L) (H : FlD base (env :: outer) e d .none s.heap)
    (h : ∀ h', FlD base outer e d .none h' → s.heap.UpToSlots h' → Q () { s with heap := h' }) : wpAny M A (leaving env (.ref e)) Q E s := by
  unfold leaving
  exact wpAny_bind (fl_note hfr hf H fun h₁ x1 x2 => fl_flight x1 fun h' y1 y2 => h h' y1.out (x2.trans y2))
end

end

section
/-- as the library's RaisedS, for an exception with a dict: G is the ground of the frame that raised or passed it on -/
noncomputable def RaisedD (base G : Heap) (l : List Env) (e d : Addr) (news : List (Addr × Obj)) (h : Heap) : Prop :=
  ∃ B, base.StaysIn B ∧ (∀ b o, G.get? b = some o → b ∉ l.filterMap (·.frame) → B.get? b = some o) ∧ (∀ q ∈ news, B.get? q.1 = some q.2 ∧ G.get? q.1 = none ∧ base.get? q.1 = none) ∧ FlD B l e d .none h
theorem memX {name : Str} {scope : Scope} {L a b : Addr} {cd : Value} {cl : List (Str × Addr)} {outer : List Env} (hm : b ∈ (envX name scope L a cd cl :: outer).filterMap (·.frame)) : b = L ∨ b ∈ outer.filterMap (·.frame) := by
  obtain ⟨env, he, hf⟩ := List.mem_filterMap.mp hm
  rcases List.mem_cons.mp he with rfl | he
  · exact .inl (Option.some.inj hf).symm
  · exact .inr (List.mem_filterMap.mpr ⟨env, he, hf⟩)
noncomputable def RaiseS (E : Value → Shared → Prop) (v : Value) (s₁ : Shared) : Prop := ∃ e dx tb, v = .ref e ∧ ExcCls s₁.heap 31 ∧ s₁.heap.get? e = some (⟨.ref 34, dx, .fields #[.ref tb, .none, .none, .none, .bool false, .none], #[]⟩ : Obj) ∧ E (.ref e) s₁
theorem raiseS_of {E : Value → Shared → Prop} {s₁ : Shared} {w : World} {h₀ : Heap} {L e d tb : Addr} {dx : Option Addr} {m : Str → Option Value} {od : Obj} {news : List (Addr × Obj)} (X : (hd.heap_1 w.params).In h₀) (F : Fr h₀ L s₁.heap m)
    (N : News h₀ L s₁.heap ((d, od) :: (e, (⟨.ref 34, dx, .fields #[.ref tb, .none, .none, .none, .bool false, .none], #[]⟩ : Obj)) :: news)) (hE : E (.ref e) s₁) : RaiseS E (.ref e) s₁ :=
  ⟨e, dx, tb, rfl, exc_obj (X.keeps F.keep), (N _ (.tail _ (.head _))).1, hE⟩
section
variable {M : Model} {A : Around} {E : Value → Shared → Prop} {s : Shared} {env : Env}
theorem ei_raise {x : Sem Value} {Q : Flow → Shared → Prop} (hh : A.handled = none)
    (h : wpAny M A x (RaiseS E) E s) : wpAny M A (raiseStmt env (some x) none) Q E s := by
  unfold raiseStmt
  refine wpAny_bind (wpAny_mono h (fun v s₁ h₁ => ?_) fun _ _ x => x)
  obtain ⟨e, dx, tb, rfl, C, he, hE⟩ := h₁
  refine ExcCls.opn C fun nm q NN bs sn' sub ab col dd k0 k1 k2 k3 k5 mN oI hC _ _ _ _ _ _ _ _ _ => ?_
  have hcB : (Value.ref 34 :: [Value.type "Exception", .type "BaseException", .type "object"]).contains (.type "BaseException") = true := by decide +kernel
  obtain ⟨hp, g, d, tk, os⟩ := s₁
  repeat (first | with_reducible refine wpAny_loadPart_at he ?_ | with_reducible refine wpAny_loadPart_at hC ?_ | (with_reducible refine wpAny_isSubtype_exc hC ?_; rw [hcB]) | wp_step)
  exact wpAny_raiseNew_none hh hE
end
theorem ei_Raise {prog : Program} {w : World} {A : Around} {E : Value → Shared → Prop} {s : Shared} {env : Env} {ex : Expr} {pos : Pos} {Q : Flow → Shared → Prop} (hh : A.handled = none) (h : wpAny (model prog w) A (eval ex env) (RaiseS E) E s) :
    wpAny (model prog w) A (exec (.Raise (some ex) none pos) env) Q E s := by
  rw [arm_exec_Raise]
  exact wpAny_bind (wpAny_standAt (ei_raise hh (wpAny_bind (wpAny_mono h (fun v s₃ h₃ => wpAny_bind (wpAny_standAt (wpAny_pure h₃))) fun _ _ x => x))))
section
variable {M : Model} {A : Around} {E : Value → Shared → Prop} {s' : Shared} {base g g₂ h : Heap} {outer : List Env} {L a e d : Addr} {m : Str → Option Value} {name : Str} {scope : Scope} {cd : Value} {Q : Unit → Shared → Prop} {news : List (Addr × Obj)} {od : Obj} {vs : Array Value} {cl : List (Str × Addr)}
theorem lv_first (K : Below A base outer g) (F : Fr g L s'.heap m) (N : News g L s'.heap ((d, od) :: (e, (⟨.ref 34, some d, .fields vs, #[]⟩ : Obj)) :: news)) (hr : ∀ p ∈ (d, od) :: news, p.1 ≠ e) (h1 : vs[1]? = some .none)
    (hQ : ∀ h', RaisedD base g outer e d ((d, od) :: news) h' → g.UpToSlots h' → Q () { s' with heap := h' }) (hk : scope.kind = .function := by rfl) :
    wpAny M (A.deeper (envX name scope L a cd cl)) (leaving (envX name scope L a cd cl) (.ref e)) Q E s' := by
  have K' : s'.heap.FunFrames base (envX name scope L a cd cl :: outer) := .cons (by show scope.kind ≠ .module; rw [hk]; decide) rfl F.ns (fresh_of_stays (B := g) K.stays (by
    cases hq : g.get? L with
    | none => rfl
    | some o => exact absurd (Nat.lt_of_lt_of_le (Heap.lt_size hq) F.above) (Nat.lt_irrefl _))) (K.frames.of_keeps fun b o e _ => ⟨o, F.keep b o e, rfl⟩)
  have he := N _ (.tail _ (.head _))
  have fin : ∀ b o, s'.heap.get? b = some o → b ≠ e → b ∉ (envX name scope L a cd cl :: outer).filterMap (·.frame) → (hideAll s'.heap (e :: (envX name scope L a cd cl :: outer).filterMap (·.frame))).get? b = some o := fun b o hb n1 n2 =>
    hideAll_get _ hb fun hm => by rcases List.mem_cons.mp hm with z | z; exact n1 z; exact n2 z
  have st : base.StaysIn (hideAll s'.heap (e :: (envX name scope L a cd cl :: outer).filterMap (·.frame))) := fun b o q => fin b o (F.keep b o (K.stays b o q)) (fun z => by
    have := fresh_of_stays K.stays he.2.2
    rw [show (e, _).1 = e from rfl, ← z, q] at this; cases this) fun hm => by rw [(K'.mem hm).1] at q; cases q
  refine fl_leave0 (base := hideAll s'.heap (e :: (envX name scope L a cd cl :: outer).filterMap (·.frame))) (Around.frames_deeper K.stack) (funFrames_hide K' fun env he b hb => .tail _ (List.mem_filterMap.mpr ⟨env, he, hb⟩)) rfl he.1 (fun b o q => of_hideAll _ q) (hideAll_none _ (.head _)) rfl rfl rfl h1 fun h' x1 x2 => ?_
  refine hQ h' ⟨_, st, fun b o q nm => fin b o (F.keep b o q) (fun z => by
    have := he.2.2
    rw [show (e, _).1 = e from rfl, ← z, q] at this; cases this) (fun hm => by
    rcases memX hm with z | z
    · rw [z, kts_self F] at q; cases q
    · exact nm z), fun q hq => ?_, x1⟩ ((Heap.UpToSlots.of_keeps F.keep).trans x2)
  have hq' : q ∈ (d, od) :: (e, (⟨.ref 34, some d, .fields vs, #[]⟩ : Obj)) :: news := by
    rcases List.mem_cons.mp hq with rfl | hq
    · exact .head _
    · exact .tail _ (.tail _ hq)
  have nq := N q hq'
  refine ⟨fin _ _ nq.1 (hr q hq) fun hm => ?_, nq.2.2, fresh_of_stays K.stays nq.2.2⟩
  obtain ⟨env, hv, hf⟩ := List.mem_filterMap.mp hm
  rcases List.mem_cons.mp hv with rfl | hv
  · exact nq.2.1 (Option.some.inj hf).symm
  · obtain ⟨o, ho, _⟩ := (K.frames.mem (List.mem_filterMap.mpr ⟨env, hv, hf⟩)).2
    rw [nq.2.2] at ho; cases ho
theorem lv_on (K : Below A base outer g) (F : Fr g L g₂ m) (R : RaisedD base g₂ (envX name scope L a cd cl :: outer) e d news s'.heap) (hsm : g₂.UpToSlots s'.heap)
    (hQ : ∀ h', RaisedD base g outer e d news h' → g.UpToSlots h' → Q () { s' with heap := h' }) :
    wpAny M (A.deeper (envX name scope L a cd cl)) (leaving (envX name scope L a cd cl) (.ref e)) Q E s' := by
  obtain ⟨B, hB, hBG, hl, H⟩ := R
  exact fl_leave (Around.frames_deeper K.stack) rfl H fun h' x1 x2 => hQ h' ⟨B, hB, fun b o q nm => hBG b o (F.keep b o q) (fun hm => by
    rcases memX hm with z | z
    · rw [z, kts_self F] at q; cases q
    · exact nm z), fun q hq => ⟨(hl q hq).1, kts_none F.keep (hl q hq).2.1, (hl q hq).2.2⟩, x1⟩ ((Heap.UpToSlots.of_keeps F.keep).trans (hsm.trans x2))
end
/-- a contract of a function that may raise SnobolError: the number of what is raised is told by pX -/
noncomputable def TellsX (w : World) (d u : Nat) (f : Addr) (vs : List Value) (pre : List (Addr × Obj) → Prop)
    (post : List (Addr × Obj) → Value → List (Addr × Obj) → Prop) (pX : Int → Prop) : Prop :=
  ∀ (cn : Str) (sn : List (Str × NameKind)) (sg sc : Bool) (sm : _) (a : Addr) (ccd : Value) (cl : List (Str × Addr)) (outer : List Env) (A₀ : Around) (base h₀ : Heap) (L : Addr) (m : Str → Option Value)
    (news : List (Addr × Obj)) (s : Shared) (Q E : Value → Shared → Prop) (mean : ExcName → Option Value) (mg mb : Str → Option Value),
    Below A₀ base outer h₀ → Fr h₀ L s.heap m → (hd.heap_1 w.params).In h₀ → News h₀ L s.heap news → Top topProg LS mean mg mb h₀ →
    pre news →
    (∀ v news' h' tk', Fr h₀ L h' m → News h₀ L h' news' → post news v news' → Q v { s with heap := h', toks := tk' }) →
    (∀ e d k t1 t2 t3 v g h' tk', pX k → Fr h₀ L g m → g.UpToSlots h' → RaisedD base g (envX cn ⟨.function, sn, sg, sc, sm⟩ L a ccd cl :: outer) e d ((d, dictOf [ent w "number" t1 (.int k t3), ent w "told" t2 v] 2) :: news) h' → E (.ref e) { s with heap := h', toks := tk' }) →
    wpAny (model PySem.Challenge.rw_np0298_01.row.prog w) (ktrTop d u none cn ⟨.function, sn, sg, sc, sm⟩ L a ccd cl outer) (call (.ref f) vs) Q E s
theorem useX {w : World} {d u : Nat} {f : Addr} {vs : List Value} {pre : List (Addr × Obj) → Prop} {post : List (Addr × Obj) → Value → List (Addr × Obj) → Prop} {pX : Int → Prop}
    (C : TellsX w d u f vs pre post pX) {dp un : Nat} {gd : Option (List Code)} {cn : Str} {sn : List (Str × NameKind)} {sg sc : Bool} {sm : List (Str × Const)} {a : Addr} {ccd : Value} {cl : List (Str × Addr)} {outer : List Env} {A₀ : Around} {base h₀ : Heap} {L : Addr} {m : Str → Option Value}
    {news : List (Addr × Obj)} {s : Shared} {Q E : Value → Shared → Prop} {mean : ExcName → Option Value} {mg mb : Str → Option Value}
 (hp : pre news)
    (k : ∀ v news' h' tk', Fr h₀ L h' m → News h₀ L h' news' → post news v news' → Q v { s with heap := h', toks := tk' })
    (kX : ∀ e d k t1 t2 t3 v g h' tk', pX k → Fr h₀ L g m → g.UpToSlots h' → RaisedD base g (envX cn ⟨.function, sn, sg, sc, sm⟩ L a ccd cl :: outer) e d ((d, dictOf [ent w "number" t1 (.int k t3), ent w "told" t2 v] 2) :: news) h' → E (.ref e) { s with heap := h', toks := tk' })
    (hdp : dp ≤ d := by k_units) (hu : un ≤ u := by k_units) (B : Below A₀ base outer h₀ := by k_asm) (F : Fr h₀ L s.heap m := by k_asm) (X : (hd.heap_1 w.params).In h₀ := by k_asm) (N : News h₀ L s.heap news := by k_asm) (T : Top topProg LS mean mg mb h₀ := by k_asm) :
    wpAny (model PySem.Challenge.rw_np0298_01.row.prog w) (ktrTop dp un gd cn ⟨.function, sn, sg, sc, sm⟩ L a ccd cl outer) (call (.ref f) vs) Q E s := by
  intro Γ p hΓ
  obtain ⟨g1, g2, g3, g4, g5⟩ := hΓ
  exact C cn sn sg sc sm a ccd cl outer A₀ base h₀ L m news s Q E mean mg mb B F X N T hp k kX Γ p ⟨g1, Nat.le_trans g2 hdp, g3, fun _ e => (by cases e), Nat.le_trans g5 hu⟩
theorem exc_use {w : World} {dp un : Nat} {gd : Option (List Code)} {A₀ : Around} {outer : List Env} {base h₀ : Heap} {L a : Addr} {m : Str → Option Value} {news : List (Addr × Obj)} {s : Shared} {E Q : Value → Shared → Prop} {mean : ExcName → Option Value} {mg mb : Str → Option Value}
    {cn : Str} {sn : List (Str × NameKind)} {sg sc : Bool} {sm : List (Str × Const)} {ccd : Value} {cl : List (Str × Addr)} {k : Int} {t t' : Tok} {told : Str}
 
    (hret : ∀ e dx tb h' tk' t1 t2, Fr h₀ L h' m → News h₀ L h' ((dx, dictOf [ent w "number" t1 (.int k t), ent w "told" t2 (.str told t')] 2) :: (e, (⟨.ref 34, some dx, .fields #[.ref tb, .none, .none, .none, .bool false, .none], #[]⟩ : Obj)) :: news) → (∀ p ∈ news, p.1 ≠ e) →
      Q (.ref e) { s with heap := h', toks := tk' })
    (hdp : dp ≤ 750 := by k_units) (hu : un ≤ 1200 := by k_units) (B : Below A₀ base outer h₀ := by k_asm) (F : Fr h₀ L s.heap m := by k_asm) (X : (hd.heap_1 w.params).In h₀ := by k_asm) (N : News h₀ L s.heap news := by k_asm) (T : Top topProg LS mean mg mb h₀ := by k_asm) :
    wpAny (model PySem.Challenge.rw_np0298_01.row.prog w) (ktrTop dp un gd cn ⟨.function, sn, sg, sc, sm⟩ L a ccd cl outer) (call (.ref 34) [.int k t, .str told t']) Q E s := by
  intro Γ p hΓ
  obtain ⟨g1, g2, g3, g4, g5⟩ := hΓ
  exact exc_new B F X N T hret Γ p ⟨g1, Nat.le_trans g2 hdp, g3, fun _ e => (by cases e), Nat.le_trans g5 hu⟩
theorem ExcNe {h₀ h : Heap} {L e d dx : Addr} {es : List DictEntry} {n : Nat} {vs : Array Value} {news : List (Addr × Obj)} (N : News h₀ L h ((d, dictOf es n) :: (e, (⟨.ref 34, some dx, .fields vs, #[]⟩ : Obj)) :: news)) (r : ∀ p ∈ news, p.1 ≠ e) : ∀ p ∈ (d, dictOf es n) :: news, p.1 ≠ e := by
  intro p hp q
  rcases List.mem_cons.mp hp with rfl | hp
  · have a := (N _ (.head _)).1
    have b := (N _ (.tail _ (.head _))).1
    rw [show (d, dictOf es n).1 = e from q] at a
    rw [show ((e, (⟨.ref 34, some dx, .fields vs, #[]⟩ : Obj)) : Addr × Obj).1 = e from rfl, a] at b
    cases b
  · exact r p hp q

end
local macro_rules | `(tactic| walk_at "exec Raise some none") => `(tactic| (k_here; refine ei_Raise rfl ?_))
local macro_rules | `(tactic| walk_at "call ref") => do sq (wordK "here") [← showR (← callT 34 ""), ← `(tactic| k_dflt ((try k_fold); refine' exc_use ?_)), ← inC false "zE zD zTb zH zTk zT1 zT2 zF zN zr", ← `(tactic| (try dsimp only)), ← `(tactic| (try k_fold))]

section
theorem cmp_optV {M : Model} {A : Around} {E : Value → Shared → Prop} {s : Shared} {Q : Value → Shared → Prop} {x : Option Int} {t : Tok} (hs : ∀ n, x = some n → Q (.bool false) s) (hn : x = none → Q (.bool true) s) :
    wpAny M A (compareOp .Is (optV x t) .none) Q E s := by
  cases x with
  | none => exact wpAny_pure (a := Value.bool (Value.none == Value.none)) (hn rfl)
  | some n => exact wpAny_pure (a := Value.bool (Value.int n t == Value.none)) (hs n rfl)
theorem cmp_optS {M : Model} {A : Around} {E : Value → Shared → Prop} {s : Shared} {Q : Value → Shared → Prop} {x : Option Str} {t : Tok} (hs : ∀ n, x = some n → Q (.bool false) s) (hn : x = none → Q (.bool true) s) :
    wpAny M A (compareOp .Is (optS x t) .none) Q E s := by
  cases x with
  | none => exact wpAny_pure (a := Value.bool (Value.none == Value.none)) (hn rfl)
  | some n => exact wpAny_pure (a := Value.bool (Value.str n t == Value.none)) (hs n rfl)
theorem c_needw (w : World) (v : V) (val : Value) (wd : Int) (t0 : Tok) (h1 : 5 ≤ wd) (h2 : wd ≤ 40) (hv : v.ok) :
    TellsX w 670 750 212 [val, .int wd t0] (fun ns => Bears w ns v val) (fun ns r ns' => ∃ n t, v.whole wd = some n ∧ r = .int n t ∧ ns' = ns) (fun k => k = 1 ∧ v.whole wd = none) := by
  unfold TellsX
  k_fill
  intro cn sn sg sc sm a ccd cl outer A₀ base h₀ L m news s Q E mean mg mb B F X N T hpre hret hX
  k_steps
  refine cmp_optV (fun n hw => ?_) (fun hw => ?_)
  · k_steps
    exact hret _ _ _ _ (by with_reducible assumption) (by with_reducible assumption) ⟨n, _, hw, by rw [hw]; rfl, rfl⟩
  · k_steps
    (((rename (hd.heap_1 _).In _ => zX); (rename Below _ _ _ _ => zB); refine raiseS_of zX zF zN ?_; refine lv_first zB zF zN (ExcNe zN zr) rfl ?_; intro zh zR zU))
    exact hX _ _ 1 _ _ _ _ _ _ _ ⟨rfl, hw⟩ (by with_reducible assumption) zU zR

end
local macro_rules | `(tactic| walk_at "call ref") => do use9 212 "c_needw" "_____123" "Kw1s2s3s" false "wn t9 hw9 e9 e8" "e9 e8" true true [← `(tactic| (have $(Lean.mkIdent `zsm):ident := V.whole_small (by with_reducible assumption) (by with_reducible assumption) (by with_reducible assumption) $(Lean.mkIdent `hw9):ident))]

section
theorem c_needt (w : World) (v : V) (val : Value) (hv : v.ok) :
    TellsX w 670 750 219 [val] (fun ns => Bears w ns v val) (fun ns r ns' => ∃ n t, v.text = some n ∧ r = .str n t ∧ ns' = ns) (fun k => k = 1 ∧ v.text = none) := by
  unfold TellsX
  k_fill
  intro cn sn sg sc sm a ccd cl outer A₀ base h₀ L m news s Q E mean mg mb B F X N T hpre hret hX
  k_steps
  refine cmp_optS (fun n hw => ?_) (fun hw => ?_)
  · k_steps
    exact hret _ _ _ _ (by with_reducible assumption) (by with_reducible assumption) ⟨n, _, hw, by rw [hw]; rfl, rfl⟩
  · k_steps
    (((rename (hd.heap_1 _).In _ => zX); (rename Below _ _ _ _ => zB); refine raiseS_of zX zF zN ?_; refine lv_first zB zF zN (ExcNe zN zr) rfl ?_; intro zh zR zU))
    exact hX _ _ 1 _ _ _ _ _ _ _ ⟨rfl, hw⟩ (by with_reducible assumption) zU zR

end
local macro_rules | `(tactic| walk_at "call ref") => do use9 219 "c_needt" "___1" "Kw1s" false "wn t9 hw9 e9 e8" "e9 e8" true true

section
theorem c_needs (w : World) (v : V) (val : Value) (wd : Int) (t0 : Tok) (h1 : 5 ≤ wd) (h2 : wd ≤ 40) (hv : v.ok) :
    TellsX w 660 700 226 [val, .int wd t0] (fun ns => Bears w ns v val) (fun ns r ns' => ∃ n t, v.whole wd = some n ∧ 0 ≤ n ∧ r = .int n t ∧ ns' = ns) (fun k => (k = 1 ∧ v.whole wd = none) ∨ (k = 14 ∧ ∃ n, v.whole wd = some n ∧ n < 0)) := by
  unfold TellsX
  k_fill
  intro cn sn sg sc sm a ccd cl outer A₀ base h₀ L m news s Q E mean mg mb B F X N T hpre hret hX
  k_steps
  · (((rename (hd.heap_1 _).In _ => zX); (rename Below _ _ _ _ => zB); refine raiseS_of zX zF zN ?_; refine lv_first zB zF zN (ExcNe zN zr) rfl ?_; intro zh zR zU))
    exact hX _ _ 14 _ _ _ _ _ _ _ (.inr ⟨rfl, _, hw9, by first | assumption | omega⟩) (by with_reducible assumption) zU zR
  · exact hret _ _ _ _ (by with_reducible assumption) (by with_reducible assumption) ⟨_, _, hw9, by omega, rfl, rfl⟩
  · (((rename Below _ _ _ _ => zB); refine lv_on zB zFg zR0 zU0 ?_; intro zh zR zU))
    exact hX _ _ zK _ _ _ _ _ _ _ (.inl zk) (by with_reducible assumption) zU zR

end
local macro_rules | `(tactic| walk_at "call ref") => do use9 226 "c_needs" "_____123" "Kw1s2s3s" false "wn t9 hw9 hp9 e9 e8" "e9 e8" true true

section
section
variable {prog : Program} {w : World} {A₀ : Around} {E : Value → Shared → Prop} {s' : Shared} {base g g₀ G : Heap} {outer : List Env} {L a e d : Addr} {m : Str → Option Value} {name : Str} {scope : Scope} {cd : Value}
  {n : Str} {b₀ : Stmt} {suite : List Stmt} {pos np : Pos} {rest : List ExceptHandler} {Q : Flow → Shared → Prop} {news : List (Addr × Obj)} {KF : Frag}
  {p : Program} {loose : List Str} {mean : ExcName → Option Value} {mg mb : Str → Option Value} {x : Str}
/-- except SnobolError as n, for an exception with a dict -/
theorem caught_D (R : RaisedD base G (envOf name scope L a cd :: outer) e d news s'.heap) (F : Fr g L G m) (K : Below A₀ base outer g) (hsm : G.UpToSlots s'.heap) (XB : KF.In base) (TB : Top p loose mean mg mb base)
    (D : KtsDicts (outer.filterMap (·.frame)) g) (T0 : KtsTurn (outer.filterMap (·.frame)) g₀ g)
    (ex : nsIn KF mainGlobals x = some (some (.ref 34))) (q : ktsIn KF 34 "BaseException" = true)
    (k : ∀ h' g' oe vs tk, KtsTurn (outer.filterMap (·.frame)) g₀ g' → Fr g' L h' (fun y => if y = n then some (.ref e) else m y) → News g' L h' ((e, oe) :: news) → oe.cls = .ref 34 → oe.dict = some d → oe.data = .fields vs → Below A₀ base outer g' → KF.In g' → Top p loose mean mg mb g' → KtsDicts (outer.filterMap (·.frame)) g' →
      wpAny (model prog w) ((A₀.deeper (envOf name scope L a cd)).mark (some (.ref e))) (execs (b₀ :: suite) (envOf name scope L a cd))
        (fun f s₄ => wpAny (model prog w) (A₀.deeper (envOf name scope L a cd)) (do bindName (envOf name scope L a cd) n .none; unbindBehindTheSuite (envOf name scope L a cd) n pos) (fun _ s₅ => Q f s₅) E s₄)
        (AsSuiteRaised (model prog w) ((A₀.deeper (envOf name scope L a cd)).mark (some (.ref e))) (envOf name scope L a cd) n pos (notedBy (model prog w) ((A₀.deeper (envOf name scope L a cd)).mark (some (.ref e))) (envOf name scope L a cd) (cameBackBy (model prog w) (A₀.deeper (envOf name scope L a cd)) (envOf name scope L a cd) E)))
        { s' with heap := h', toks := tk })
    (hk : scope.kind = .function := by rfl) (hlo : (envOf name scope L a cd).kindOf n = some .local := by rfl) (hx : (envOf name scope L a cd).kindOf x = some .globalImplicit := by rfl) (hd : (x == ("__debug__" : Str)) = false := by decide) :
    wpAny (model prog w) (A₀.deeper (envOf name scope L a cd)) (noteFrame (.ref e) (envOf name scope L a cd))
      (fun _ s₂ => wpAny (model prog w) (A₀.deeper (envOf name scope L a cd)) (setFlight (.ref e) none) (fun _ s₃ =>
        wpAny (model prog w) (A₀.deeper (envOf name scope L a cd)) (handleBy (.ref e) (envOf name scope L a cd) (.ExceptHandler (some (.Name x np)) (some n) (b₀ :: suite) pos :: rest)) Q E s₃) E s₂) E s' := by
  obtain ⟨B, hB, hBG, hl, H⟩ := R
  have hL : B.get? L = none := by
    obtain ⟨_, ⟨L', _, hf, hn', _⟩, _⟩ := H.frames
    obtain rfl : L = L' := Option.some.inj hf
    exact hn'
  refine fl_note (Around.frames_deeper K.stack) rfl H fun h₄ H₄ u₄ => ?_
  refine fl_flight H₄ fun h₅ H₅ u₅ => ?_
  obtain ⟨g₅, T₅, F₅, K₅⟩ := kts_ground K F hBG H₅.stays ((hsm.trans u₄).trans u₅)
  have X₅ : KF.In g₅ := XB.keeps K₅.stays
  have P₅ : TopRead p loose mg mb g₅ := topRead_of (TB.keeps K₅.stays)
  refine hideG fun H9 hG9 => ?_
  obtain ⟨ob, _, _, _, _, hob, hobc, -⟩ := H₅.tr
  obtain ⟨nm, q', N, bs, bm, hdct, sn, sub, ab, col, dd, k0, k1, k2, k3, k5, newId, hC, hbase, hbT⟩ := kts_cls X₅ q
  refine hG9 ?_
  clear hG9 H9
  refine wpAny_handleBy_cons (codeAny_handlers_test (name_K F₅ X₅ P₅ ex ?_ hk hx hd)) (by intro q; cases q)
  refine wpAny_excMatches_sub_self (F₅.keep _ _ hC) hob hobc hbase (codeAny_handlers_suite_as ?_)
  refine fl_flight H₅ fun h₆ H₆ u₆ => ?_
  have U := ((hsm.trans u₄).trans u₅).trans u₆
  obtain ⟨g₆, T₆, F₆, K₆⟩ := kts_ground K F hBG H₆.stays U
  refine hideG fun H9 hG9 => ?_
  obtain ⟨oe, vs, _, _, _, hoe, hoec, hoedd, hoed, -⟩ := H₆.tr
  refine hG9 ?_
  clear hG9 H9
  have ne₆ : g₆.get? e = none := T₆.none_ _ (kts_fresh F hBG H₆.new fun o ho hm => by
    obtain ⟨_, o', ho', hdn⟩ := K.frames.mem hm
    rw [ho] at ho'
    cases ho'
    obtain ⟨sl, hs⟩ := U _ _ (F.keep _ _ ho) hdn
    rw [hoe] at hs
    cases hs
    exact hdn _ hoed)
  have Nl : News g₆ L h₆ news := fun q hq => ⟨H₆.stays _ _ (hl q hq).1, (fun z => by have := (hl q hq).1; rw [z, hL] at this; cases this), T₆.none_ _ (kts_none F.keep (hl q hq).2.1)⟩
  have N₆ := News.more F₆ Nl hoe (fun es n q => by rw [hoed] at q; cases q) ne₆
  refine stN F₆ N₆ (fun h₇ F₇ N₇ => ?_) hk hlo
  exact k h₇ g₆ oe vs _ (T0.trans T₆) F₇ N₇ hoec hoedd hoed K₆ (XB.keeps K₆.stays) (TB.keeps K₆.stays) (D.turn T₆)
end

end

section
section
variable {prog : Program} {w : World} {A : Around} {E : Value → Shared → Prop} {h : Heap} {g : Array GenState} {d : Drawn} {t : Nat} {os : OsState}
variable {nm q : Str} {N e dx : Addr} {bs bmB : List Value} {sn : List Str} {sub : List Value} {ab : Bool} {col : Option Bool} {dd : Option Addr} {k0 k1 k2 k3 k5 : Option Value} {newId B : String} {mN mA : Str → Option Value} {name : Str} {v : Value} {o : Obj} {vs : Array Value}
theorem eg_entry {tk : Tok} {Q : Fin → Shared → Prop} (FB : ExcAttrBase B bmB)
    (hC : h.get? 34 = some (excClassObj nm q 34 N bs bmB true sn sub ab col dd k0 k1 k2 k3 k5 newId)) (hN : h.Ns N mN) (hna : mN name = none) (hB : typeLookup (.type B) name = pure none)
    (hx : h.get? e = some o) (hc : o.cls = .ref 34) (hdat : o.data = .fields vs) (hd : o.dict = some dx) (hns : h.Ns dx mA) (hv : mA name = some v) (hq : Q (.done (.ret v)) ⟨h, g, d, t, os⟩) :
    wpAny (model prog w) A (Builtin.«object.__getattribute__» ⟨[.ref e, .str name tk], []⟩) Q E ⟨h, g, d, t, os⟩ := by
  unfold Builtin.«object.__getattribute__»
  repeat (first | (with_reducible refine wpAny_loadPart_at hx ?_; rw [hc]) | (with_reducible refine wpAny_typeLookup_exc hC hN FB.mro hB ?_; rw [hna]) | wp_step)
  rw [hdat]
  dsimp only
  unfold instanceDict
  repeat (first | (with_reducible refine wpAny_loadPart_at hx ?_; rw [hc]) | with_reducible refine wpAny_loadPart_at hC ?_ | wp_step)
  rw [hd]
  repeat (first | (with_reducible refine wpAny_nsGet hns ?_; rw [hv]) | wp_step)
  exact hq
theorem eg_check {M : Model} {nameV : Value} {Q : Unit → Shared → Prop} (FB : ExcAttrBase B bmB) (hC : h.get? 34 = some (excClassObj nm q 34 N bs bmB true sn sub ab col dd k0 k1 k2 k3 k5 newId))
    (hx : h.get? e = some o) (hc : o.cls = .ref 34) (hq : Q () ⟨h, g, d, t, os⟩) : wpAny M A (checkBuiltinCall "BaseException.__getattribute__" ⟨[.ref e, nameV], []⟩) Q E ⟨h, g, d, t, os⟩ := by
  have hk : builtinKind "BaseException.__getattribute__" = some .slot := by decide +kernel
  have hsplit : splitId "BaseException.__getattribute__" = some ("BaseException", "__getattribute__") := by decide +kernel
  have hcB : (Value.ref 34 :: bmB).contains (.type "BaseException") = true := by rw [List.contains_cons, FB.hasBase, Bool.or_true]
  have ha := PySem.F.args_bexc_ga (.ref e) nameV
  simp only [checkBuiltinCall, hk, hsplit]
  refine wpAny_bind ?_
  · unfold isInstance
    repeat (first | (with_reducible refine wpAny_loadPart_at hx ?_; rw [hc]) | (with_reducible refine wpAny_isSubtype_exc hC ?_; rw [hcB]) | wp_step)
    exact hq
theorem eg_call {tk : Tok} {R : Result → Shared → Prop} (FB : ExcAttrBase B bmB)
    (hC : h.get? 34 = some (excClassObj nm q 34 N bs bmB true sn sub ab col dd k0 k1 k2 k3 k5 newId)) (hN : h.Ns N mN) (hna : mN name = none) (hB : typeLookup (.type B) name = pure none)
    (hx : h.get? e = some o) (hc : o.cls = .ref 34) (hdat : o.data = .fields vs) (hd : o.dict = some dx) (hns : h.Ns dx mA) (hv : mA name = some v) (hq : R (.ok (.ret v)) ⟨h, g, d, t, os⟩) :
    codeAny (model prog w) A (.call (.builtin "BaseException.__getattribute__") ⟨[.ref e, .str name tk], []⟩) R ⟨h, g, d, t, os⟩ :=
  codeAny_call_builtin FB.ga.plain PySem.F.entry_bexc_ga (eg_check FB hC hx hc (eg_entry FB hC hN hna hB hx hc hdat hd hns hv hq))
theorem eg_by {tk : Tok} {fill expr : Bool} {Q : Value → Shared → Prop} (FB : ExcAttrBase B bmB)
    (hC : h.get? 34 = some (excClassObj nm q 34 N bs bmB true sn sub ab col dd k0 k1 k2 k3 k5 newId)) (hN : h.Ns N mN) (hna : mN name = none) (hn1 : mN "__getattribute__" = none) (hn2 : mN "__getattr__" = none) (hB : typeLookup (.type B) name = pure none)
    (hx : h.get? e = some o) (hc : o.cls = .ref 34) (hdat : o.data = .fields vs) (hd : o.dict = some dx) (hns : h.Ns dx mA) (hv : mA name = some v) (hh : handedOut v = pure v) (hq : Q v ⟨h, g, d, t, os⟩) :
    wpAny (model prog w) A (getAttrBy (.ref e) (.str name tk) fill expr) Q E ⟨h, g, d, t, os⟩ := by
  have f3 := FB.ga.bind (.ref e)
  have hx0 : (expr && onTheHeap (Value.builtin "BaseException.__getattribute__")) = false := by cases expr <;> rfl
  have hx2 : (Value.builtin "BaseException.__getattribute__" == Value.builtin "object.__getattribute__") = false := by decide +kernel
  have hx1 : (onTheHeap (Value.ref 34) && Value.builtin "BaseException.__getattribute__" == Value.builtin "object.__getattribute__") = false := by rw [hx2]; rfl
  unfold getAttrBy
  repeat (first | (with_reducible refine wpAny_loadPart_at hx ?_; rw [hc]) | (with_reducible refine wpAny_typeLookup_exc hC hN FB.mro FB.ga.lookup ?_; rw [hn1]) | (with_reducible refine wpAny_typeLookup_exc hC hN FB.mro FB.noGetattr ?_; rw [hn2]) | wp_step)
  refine eg_call FB hC hN hna hB hx hc hdat hd hns hv ?_
  repeat (any_goals (first | with_reducible assumption | wp_step))
end
theorem eg_number {prog : Program} {w w' : World} {A : Around} {E : Value → Shared → Prop} {s : Shared} {h₀ : Heap} {L e dx : Addr} {m : Str → Option Value} {news : List (Addr × Obj)} {o : Obj} {vs : Array Value} {k : Int} {t1 t2 t3 : Tok} {v : Value} {expr : Bool} {Q : Value → Shared → Prop}
    (X : (hd.heap_1 w'.params).In h₀) (F : Fr h₀ L s.heap m) (N : News h₀ L s.heap news) (h1 : (e, o) ∈ news) (hc : o.cls = .ref 34) (hdat : o.data = .fields vs) (hd : o.dict = some dx)
    (h2 : (dx, dictOf [ent w' "number" t1 (.int k t3), ent w' "told" t2 v] 2) ∈ news) (hq : Q (.int k t3) { s with toks := s.toks + 1 }) :
    wpAny (model prog w) A (getAttr (.ref e) "number" expr) Q E s := by
  refine ExcCls.opn (exc_obj (X.keeps F.keep)) fun nm q NN bs sn sub ab col dd k0 k1 k2 k3 k5 mN oI hC hN _ _ _ _ hn1 _ hn3 hn4 => ?_
  have hns : s.heap.Ns dx (nsFind #[ent w' "number" t1 (.int k t3), ent w' "told" t2 v]) := ⟨_, _, _, (N _ h2).1, rfl, (by
    intro a ha
    simp at ha
    rcases ha with rfl | rfl <;> exact ⟨_, _, rfl⟩), fun _ => rfl⟩
  obtain ⟨hh, g, d, t, os⟩ := s
  have hv : nsFind #[ent w' "number" t1 (.int k t3), ent w' "told" t2 v] (Str.ofString "number") = some (.int k t3) := rfl
  have z := eg_by (prog := prog) (w := w) (A := A) (E := E) (g := g) (d := d) (t := t + 1) (os := os) (tk := t) (fill := true) (expr := expr) PySem.F.attrBase_Exception hC hN hn1 hn3 hn4 ei_lk_number (N _ h1).1 hc hdat hd hns hv rfl hq
  refine wpAny_bind (wpAny_mkText ?_)
  exact z

end

section
/-- the caller's ground behind a call in whose frame an exception was caught -/
theorem turn_out {A₀ : Around} {base h₀ g g' h' : Heap} {env : Env} {outer : List Env} {L L' : Addr} {m m' : Str → Option Value} {news' : List (Addr × Obj)} (hf : env.frame = some L)
    (B : Below A₀ base outer h₀) (FG : Fr h₀ L g m) (st : h₀.StaysIn g) (T' : KtsTurn ((env :: outer).filterMap (·.frame)) g g') (F' : Fr g' L' h' m') (N' : News g' L' h' news') :
    ∃ h₀', KtsTurn (outer.filterMap (·.frame)) h₀ h₀' ∧ Fr h₀' L h' m ∧ News h₀' L h' news' ∧ Below A₀ base outer h₀' := by
  have up : g.UpToSlots h' := fun b o e _ => by
    obtain ⟨sl, hs⟩ := T'.up e
    exact ⟨sl, F'.keep _ _ hs⟩
  have hfs : (envOf (Str.ofString "") ⟨.function, [], false, false, []⟩ L 0 .none :: outer).filterMap (·.frame) = (env :: outer).filterMap (·.frame) := by
    rw [List.filterMap_cons, List.filterMap_cons, hf]
    rfl
  obtain ⟨h₀', T₁, F₁, B₁⟩ := kts_ground (name := Str.ofString "") (scope := ⟨.function, [], false, false, []⟩) (a := 0) (cd := .none) (B := h') (h₅ := h') B FG (fun b o e hm => by
    rw [hfs] at hm
    exact F'.keep _ _ (T'.other b o e hm)) (fun _ _ e => e) up
  refine ⟨h₀', T₁, F₁, fun p hp => ⟨(N' p hp).1, fun q => ?_, T₁.none_ _ ?_⟩, B₁⟩
  · obtain ⟨oL, es, ep, e, _⟩ := FG.ns
    obtain ⟨sl, hs⟩ := T'.up e
    have z := (N' p hp).2.2
    rw [q, hs] at z
    cases z
  · cases q : h₀.get? p.1 with
    | none => rfl
    | some o =>
      obtain ⟨sl, hs⟩ := T'.up (st _ _ q)
      have z := (N' p hp).2.2
      rw [hs] at z
      cases z
section
variable {prog : Program} {w : World} {A₀ A : Around} {s : Shared} {base h₀ g₀ : Heap} {outer : List Env} {L : Addr} {m : Str → Option Value} {env : Env} {news : List (Addr × Obj)} {K : Frag} {p : Program} {loose : List Str} {mean : ExcName → Option Value} {mg mb : Str → Option Value}
    {R : Result → Shared → Prop} {name qual : Str} {params : Arguments} {body : List Stmt} {scope : Scope} {dV kV doc pm cdv ct oc : Value} {an od : Option Addr} {osl : Array (Option Value)} {f : Addr} {args : Args} {binds : List (Str × Value)}
theorem dictsX (hf : env.frame = some L) {g : Heap} (FG : Fr h₀ L g m) (st : h₀.StaysIn g) (D : KtsDicts (outer.filterMap (·.frame)) h₀) : KtsDicts ((env :: outer).filterMap (·.frame)) g := by
  intro b hb
  rw [List.filterMap_cons, hf] at hb
  rcases List.mem_cons.mp hb with rfl | hb
  · obtain ⟨oL, es, ep, e, hd, _⟩ := FG.ns
    exact ⟨oL, es, ep, e, hd⟩
  · obtain ⟨o, es, n, e, hd⟩ := D b hb
    exact ⟨o, es, n, st _ _ e, hd⟩
theorem leaveS_out (hf : env.frame = some L) (B : Below A₀ base outer h₀) {g : Heap} (FG : Fr h₀ L g m) (st : h₀.StaysIn g) (XB : K.In base) (TB : Top p loose mean mg mb base) (D : KtsDicts (outer.filterMap (·.frame)) h₀)
    (T0 : KtsTurn (outer.filterMap (·.frame)) g₀ h₀) (lv : ∀ v s', LeaveK h₀ L m g R v s' → R (.ok (.ret v)) s') {v : Value} {s' : Shared}
    (hl : LeaveS ((env :: outer).filterMap (·.frame)) A₀ base outer K p loose mean mg mb g₀ h₀ L m g R v s') : R (.ok (.ret v)) s' := by
  rcases hl with hl | ⟨g', L', m', news', T', F', N', k⟩
  · exact lv _ _ hl
  · obtain ⟨h₀', T₁, F₁, N₁, B₁⟩ := turn_out hf B FG st T' F' N'
    exact k h₀' (T0.trans T₁) F₁ N₁ B₁ (XB.keeps B₁.stays) (TB.keeps B₁.stays) (D.turn T₁)
theorem code_defSX (B : Below A₀ base outer h₀) (F : Fr h₀ L s.heap m) (X₀ : K.In h₀) (N : News h₀ L s.heap news) (T : Top p loose mean mg mb h₀) (XB : K.In base) (TB : Top p loose mean mg mb base) (D : KtsDicts (outer.filterMap (·.frame)) h₀)
    (T0 : KtsTurn (outer.filterMap (·.frame)) g₀ h₀) (hA : A.frames = some (env :: outer)) (hf : env.frame = some L) (hke : env.scope.kind = .function)
    (ho : K.lookup f = some ⟨oc, od, .func (fnOf name qual params body scope dV kV doc pm an cdv ct), osl⟩) (hcd : codeIn K cdv qual = true) (hroom : A.depth < recursionLimit)
    (hbind : BindsTo s (fnOf name qual params body scope dV kV doc pm an cdv ct) args binds) (hloc : ∀ y ∈ binds, scope.names.lookup y.1 = some .local)
    (h : ∀ g L' h₁, Fr h₀ L g m → Fr g L' h₁ (fun y => binds.reverse.lookup y) → News g L' h₁ news → Below A base (env :: outer) g → K.In g → Top p loose mean mg mb g → KtsDicts ((env :: outer).filterMap (·.frame)) g →
      wpAny (model prog w) (A.deeper (envOf qual scope L' f cdv)) (execs body (envOf qual scope L' f cdv))
        (fun fl s' => LeaveS ((env :: outer).filterMap (·.frame)) A₀ base outer K p loose mean mg mb g₀ h₀ L m g R (match fl with | .ret v => v | _ => .none) s')
        (fun e s' => wpAny (model prog w) (A.deeper (envOf qual scope L' f cdv)) (leaving (envOf qual scope L' f cdv) e) (fun _ s'' => R (.error e) s'') (fun e' s'' => R (.error e') s'') s')
        { s with heap := h₁, toks := s.toks + binds.length })
    (hco : scope.isCoroutine = false) (hgen : scope.isGenerator = false) (hk : scope.kind = .function)
    (hcell : ∀ x ∈ scope.names, x.2 ≠ .cell) : codeAny (model prog w) A (.call (.ref f) args) R s := by
  obtain ⟨FG, BG, st, lv⟩ := groundX (R := R) B F N hA hf hke
  refine codeAny_call_def (fd := fnOf name qual params body scope dV kV doc pm an cdv ct) (body := body) (binds := binds) hroom (X₀.keeps F.keep _ _ ho) rfl (T.nolimit.keeps F.keep) (codeRec_of (X₀.keeps F.keep) hcd) rfl hbind hcell hloc (fun h₁ hns hk₁ => ?_) hco hgen hk
  exact wpAny_mono (h _ s.heap.objs.size h₁ FG ⟨hns, fun b o e => hk₁ b o (of_hideAll _ e), Nat.le_of_eq (hideAll_size _ _)⟩
    (fun q hq => ⟨hk₁ _ _ (N q hq).1, Nat.ne_of_lt (Heap.lt_size (N q hq).1), hideAll_none _ (List.mem_map_of_mem hq)⟩) BG (X₀.keeps st) (T.keeps st) (dictsX hf FG st D)) (fun fl s' hl => leaveS_out hf B FG st XB TB D T0 lv hl) fun _ _ y => y
theorem code_defSC (B : Below A₀ base outer h₀) (F : Fr h₀ L s.heap m) (X₀ : K.In h₀) (N : News h₀ L s.heap news) (T : Top p loose mean mg mb h₀) (XB : K.In base) (TB : Top p loose mean mg mb base) (D : KtsDicts (outer.filterMap (·.frame)) h₀)
    (T0 : KtsTurn (outer.filterMap (·.frame)) g₀ h₀) (hA : A.frames = some (env :: outer)) (hf : env.frame = some L) (hke : env.scope.kind = .function)
    (ho : K.lookup f = some ⟨oc, od, .func (fnOf name qual params body scope dV kV doc pm an cdv ct), osl⟩) (hcd : codeIn K cdv qual = true) (hroom : A.depth < recursionLimit)
    (hbind : BindsTo s (fnOf name qual params body scope dV kV doc pm an cdv ct) args binds) (hkind : (binds.all fun y => scope.names.lookup y.1 == some .local || scope.names.lookup y.1 == some .cell) = true)
    (hnd : ((cellsFrom 0 scope.names []).map (·.1)).Nodup)
    (h : ∀ g L' h₁ tk cells, Fr h₀ L g m → Fr g L' h₁ (bindL (envOfC qual scope L' f cdv).kindOf binds fun _ => none) → News g L' h₁ (cells ++ news) →
      CellsAre (bindC (envOfC qual scope L' f cdv).kindOf binds fun _ => none) (cellsFrom (L' + 1) scope.names []) cells → Below A base (env :: outer) g → K.In g → Top p loose mean mg mb g → KtsDicts ((env :: outer).filterMap (·.frame)) g → (∀ p ∈ news, p.1 < L') →
      wpAny (model prog w) (A.deeper (envOfC qual scope L' f cdv)) (execs body (envOfC qual scope L' f cdv))
        (fun fl s' => LeaveS ((env :: outer).filterMap (·.frame)) A₀ base outer K p loose mean mg mb g₀ h₀ L m g R (match fl with | .ret v => v | _ => .none) s')
        (fun e s' => wpAny (model prog w) (A.deeper (envOfC qual scope L' f cdv)) (leaving (envOfC qual scope L' f cdv) e) (fun _ s'' => R (.error e) s'') (fun e' s'' => R (.error e') s'') s')
        { s with heap := h₁, toks := tk })
    (hco : scope.isCoroutine = false) (hgen : scope.isGenerator = false) (hk : scope.kind = .function) : codeAny (model prog w) A (.call (.ref f) args) R s := by
  obtain ⟨FG, BG, st, lv⟩ := groundX (R := R) B F N hA hf hke
  refine codeAny_call_function hroom (X₀.keeps F.keep _ _ ho) rfl hco hgen rfl (codeRec_of (X₀.keeps F.keep) hcd) (hbind _ _ _ _ ?_)
  refine wpAny_newFunctionEnv_cells hk (kindsX hkind _) fun env' he s' x => ?_
  subst he
  refine ⟨(T.nolimit.keeps F.keep).keeps x.toInCall.keep, codeAny_func ?_⟩
  obtain ⟨h₁, tk, rfl, _⟩ := x.done
  have hk₁ := x.toInCall.keep
  obtain ⟨cells, NC, Y⟩ := Cl.news (h₀ := s.heap) (Nat.le_refl _) fun n c hm => ⟨x.cell n c (lookup_of_mem_nodup (cellsFrom_names scope.names 0 (s.heap.objs.size + 1) [] [] rfl ▸ hnd) hm), x.above n c hm⟩
  refine wpAny_mono (h _ s.heap.objs.size h₁ tk cells FG ⟨x.toInCall.ns, fun b o e => hk₁ b o (of_hideAll _ e), Nat.le_of_eq (hideAll_size _ _)⟩ (fun q hq => ?_) Y BG (X₀.keeps st) (T.keeps st) (dictsX hf FG st D) (fun q hq => Heap.lt_size (N q hq).1)) (fun fl s' hl => leaveS_out hf B FG st XB TB D T0 lv hl) fun _ _ y => y
  rcases List.mem_append.mp hq with hq | hq
  · refine ⟨(NC q hq).1, (NC q hq).2.1, ?_⟩
    cases z : (hideAll s.heap (news.map (·.1))).get? q.1 with
    | none => rfl
    | some o => have := of_hideAll _ z; rw [(NC q hq).2.2] at this; cases this
  · exact ⟨hk₁ _ _ (N q hq).1, Nat.ne_of_lt (Heap.lt_size (N q hq).1), hideAll_none _ (List.mem_map_of_mem hq)⟩
end

end

section
theorem nskip2 {h₀ h : Heap} {L : Addr} {a b c : Addr × Obj} {l : List (Addr × Obj)} (N : News h₀ L h (a :: b :: c :: l)) : News h₀ L h (a :: l) := nsub N fun p hp => by
  rcases List.mem_cons.mp hp with rfl | hp
  · exact .head _
  · exact .tail _ (.tail _ (.tail _ hp))
/-- _law_heard(work), work's contract given -/
noncomputable def Heard (w : World) (d u : Nat) (f : Addr) (pre : List (Addr × Obj) → Prop) (post : List (Addr × Obj) → Value → List (Addr × Obj) → Prop) (pX : Int → Prop) : Prop :=
  ∀ (cn : Str) (sn : List (Str × NameKind)) (sg sc : Bool) (sm : _) (a : Addr) (ccd : Value) (cl : List (Str × Addr)) (outer : List Env) (A₀ : Around) (base h₀ : Heap) (L : Addr) (m : Str → Option Value)
    (news : List (Addr × Obj)) (s : Shared) (Q E : Value → Shared → Prop) (mean : ExcName → Option Value) (mg mb : Str → Option Value),
    Below A₀ base outer h₀ → Fr h₀ L s.heap m → (hd.heap_1 w.params).In h₀ → News h₀ L s.heap news → Top topProg LS mean mg mb h₀ →
    (hd.heap_1 w.params).In base → Top topProg LS mean mg mb base → KtsDicts (outer.filterMap (·.frame)) h₀ →
    pre news →
    (∀ v news' h' tk', Fr h₀ L h' m → News h₀ L h' news' → post news v news' → Q v { s with heap := h', toks := tk' }) →
    (∀ g k tp t1 t2 c h' tk', pX k → KtsTurn (outer.filterMap (·.frame)) h₀ g → Fr g L h' m → News g L h' ((tp, tupO [.str (Str.ofString "error") t1, .int k t2] c) :: news) → Below A₀ base outer g → (hd.heap_1 w.params).In g → Top topProg LS mean mg mb g → KtsDicts (outer.filterMap (·.frame)) g →
      Q (.ref tp) { s with heap := h', toks := tk' }) →
    wpAny (model PySem.Challenge.rw_np0298_01.row.prog w) (ktrTop d u none cn ⟨.function, sn, sg, sc, sm⟩ L a ccd cl outer) (call (.ref 387) [.ref f]) Q E s
theorem c_heard (w : World) (f : Addr) {pre : List (Addr × Obj) → Prop} {post : List (Addr × Obj) → Value → List (Addr × Obj) → Prop} {pX : Int → Prop} (C : TellsX w 650 650 f [] pre post pX) (hfn : ∀ ns, pre ns → ∃ o fd, (f, o) ∈ ns ∧ o.data = .func fd) : Heard w 640 600 f pre post pX := by
  unfold Heard
  k_fill
  intro cn sn sg sc sm a ccd cl outer A₀ base h₀ L m news s Q E mean mg mb B F X N T XB TB D hpre hret hX
  refine wpAny_call ?_
  refine' code_defSX B F X N T XB TB D KtsTurn.refl rfl rfl rfl ?k6 ?k7 ?k8 ?k9 ?kB ?_ ?c2 ?c3 ?c4 ?c5
  case k6 => k_is
  case k7 => k_is
  case k8 => k_room
  case k9 => exact BindsTo.of_eq rfl
  case kB => exact locs rfl
  case c2 => exact rfl
  case c3 => exact rfl
  case c4 => exact rfl
  case c5 => decide
  intro g' L' h' FG' F' N' B' X' T' D'
  try dsimp only
  try k_lift B'
  try k_fold
  k_steps
  obtain ⟨fo, fd, hfm, hfd⟩ := hfn _ hpre
  obtain ⟨foc, fod, fdt, fsl⟩ := fo
  obtain rfl : fdt = _ := hfd
  refine callWith_F0 ⟨foc, fod, fd, fsl, (by rename News _ _ _ _ => lN; exact (lN _ hfm).1)⟩ ?_
  try k_fold
  refine' useX C hpre ?_ ?_
  · intro v9 n9 h9 tk9 F9 N9 p9
    try dsimp only
    k_steps
    exact hret _ _ _ _ (by with_reducible assumption) (by with_reducible assumption) p9
  · intro zE zD zK zt1 zt2 zt3 zv zg zh0 ztk zk zFg zU0 zR0
    try dsimp only
    refine' caught_D zR0 ?F ?K zU0 XB TB ?D KtsTurn.refl ?ex ?q ?_
    case F => assumption
    case K => assumption
    case D => assumption
    case ex => k_is
    case q => kts_isx
    k_whole
    intro h8 g8 oe vs8 tk8 T8 F8 N8 c8 d8 f8 B8 X8 P8 D8
    try dsimp only
    try k_lift B8
    k_steps
    refine' eg_number X8 ?F ?N (.head _) c8 f8 d8 (.tail _ (.head _)) ?_
    case F => k_asm
    case N => k_asm
    try dsimp only
    k_steps
    exact hX _ _ _ _ _ _ _ _ zk (by with_reducible assumption) (by with_reducible assumption) (nskip2 (by with_reducible assumption)) (by with_reducible assumption) (by with_reducible assumption) (by with_reducible assumption) (by with_reducible assumption)

end

section
/-- the codes of the lambdas that a def has made so far: its table stands at P -/
noncomputable def TabW (qual : Str) (ns : List (Addr × Obj)) (P : Addr) : Prop :=
  ∃ ps : Array Value, (P, tabObj ps) ∈ ns ∧ TriplesOk ps.toList ∧ ∀ pos v, codeAmong pos ps.toList = some v → ∃ c' oc vs t, v = .ref c' ∧ (c', oc) ∈ ns ∧ c' ≠ P ∧ oc.data = .fields vs ∧ vs[1]? = some (.str qual t)
theorem among_snoc {pos : Pos} {a b : Int} {c v : Value} (l : List Value) (h : TriplesOk l) (hv : codeAmong pos (l ++ [rawInt a, rawInt b, c]) = some v) : codeAmong pos l = some v ∨ v = c := by
  fun_induction TriplesOk l with
  | case1 =>
    simp only [List.nil_append, codeAmong, rawInt] at hv
    split at hv
    · exact .inr (Option.some.inj hv).symm
    · cases hv
  | case2 a' t b' u x rest ih =>
    simp only [List.cons_append, codeAmong] at hv ⊢
    split at hv
    · rename_i hc; rw [if_pos hc]; exact .inl hv
    · rename_i hc; rw [if_neg hc]; exact ih h hv
  | case3 l h1 h2 => exact h.elim
theorem TabW.nil {qual : Str} {ns : List (Addr × Obj)} {P : Addr} (h : (P, tabObj #[]) ∈ ns) : TabW qual ns P := ⟨#[], h, trivial, fun pos v e => by cases e⟩
noncomputable def except (P : Addr) (ns : List (Addr × Obj)) : List (Addr × Obj) := ns.filter fun p => p.1 != P
theorem mem_except {P : Addr} {ns : List (Addr × Obj)} {p : Addr × Obj} : p ∈ except P ns ↔ p ∈ ns ∧ p.1 ≠ P := by simp [except]
section
variable {M : Model} {A : Around} {E : Value → Shared → Prop} {s : Shared} {h₀ : Heap} {L a c P : Addr} {m mg mb : Str → Option Value} {cn : Str} {cs : Scope} {ccd : Value} {cl : List (Str × Addr)} {news : List (Addr × Obj)}
  {p : Program} {loose : List Str} {mean : ExcName → Option Value} {name qual : Str} {params : Arguments} {body : Expr} {scope : Scope} {pos : Pos} {firstLine : Nat} {clos : List (Str × Addr)}
theorem lam_make {Q : Value → Shared → Prop} (F : Fr h₀ L s.heap m) (N : News h₀ L s.heap news) (T : Top p loose mean mg mb h₀) (C : CodeHd h₀ c P) (hcd : ccd = .ref c) (W : TabW qual news P)
    (hcl : closureFor scope (envX cn cs L a ccd cl) = pure clos)
    (h : ∀ f c' oc vs t ctv news' h' tk, Fr h₀ L h' m → News h₀ L h' news' → (∀ p ∈ news, p.1 ≠ P → p ∈ news') → TabW qual news' P →
      (f, kla_obj name qual params body scope clos ((mg "__name__").getD .none) c' ctv) ∈ news' → (c', oc) ∈ news' → oc.data = .fields vs → vs[1]? = some (.str qual t) → Q (.ref f) { s with heap := h', toks := tk }) :
    wpAny M A (makeFunction name qual params (.expr body) scope (envX cn cs L a ccd cl) [] [] [] pos firstLine) Q E s := by
  obtain ⟨ps, hP, ht, hall⟩ := W
  cases hf : codeAmong pos ps.toList with
  | some cv =>
    obtain ⟨c', oc, vs, t, rfl, hc, hne, hd, hv⟩ := hall _ _ hf
    refine kla_hit F N T C hcd hP ht hf hcl fun f ctv h' tk F' N' l => ?_
    exact h f c' oc vs t ctv _ h' tk F' N' (fun q hq _ => .tail _ hq) ⟨ps, .tail _ hP, ht, fun pos v e => by
      obtain ⟨c₂, oc₂, vs₂, t₂, e1, e2, e3⟩ := hall pos v e
      exact ⟨c₂, oc₂, vs₂, t₂, e1, .tail _ e2, e3⟩⟩ (.head _) (.tail _ hc) hd hv
  | none =>
    have N₁ : News h₀ L s.heap ((P, tabObj ps) :: except P news) := nsub N fun q hq => by
      rcases List.mem_cons.mp hq with rfl | hq
      · exact hP
      · exact (mem_except.mp hq).1
    refine kla_nest F N₁ T C hcd (.head fun q hq => (mem_except.mp hq).2) ht hf hcl fun f c' oc vs t ctv h' tk F' N' hd hv l1 l2 => ?_
    have hcP : c' ≠ P := Nat.ne_of_gt (l1 _ (.head _))
    refine h f c' oc vs t ctv _ h' tk F' N' (fun q hq hne => .tail _ (.tail _ (.tail _ (mem_except.mpr ⟨hq, hne⟩)))) ⟨_, .tail _ (.tail _ (.head _)), ?_, fun pos' v e => ?_⟩ (.head _) (.tail _ (.head _)) hd hv
    · rw [Array.toList_append]
      exact TriplesOk_snoc _ _ _ _ ht
    · rw [Array.toList_append] at e
      rcases among_snoc _ ht e with e | rfl
      · obtain ⟨c₂, oc₂, vs₂, t₂, e1, e2, e3, e4⟩ := hall pos' v e
        exact ⟨c₂, oc₂, vs₂, t₂, e1, .tail _ (.tail _ (.tail _ (mem_except.mpr ⟨e2, e3⟩))), e3, e4⟩
      · exact ⟨c', oc, vs, t, rfl, .tail _ (.head _), hcP, hd, hv⟩
end

end
local macro_rules | `(tactic| walk_at "eval Lambda") => do
  sq (wordK "here") [← `(tactic| k_dflt $(← rf "kla_eval" "d?" "dr"):tactic), ← `(tactic| k_dflt $(← rfw "lam_make" "FNTCdWl?" "FaNaTadrCcWhlr"):tactic),
    ← inC false "lf lc", ← inC true "loc", ← inC false "lvs lt lctv lns lh ltk lF lN lk lW lm lcm ld lv", ← `(tactic| try dsimp only at $(Lean.mkIdent `lm):ident)]

section
theorem kindI (v : V) : (Str.ofString v.kind == Str.ofString "INTEGER") = v.isI := by cases v <;> (dsimp only [V.kind, V.isI, V.isS, V.isC]; decide +kernel)
theorem kindS (v : V) : (Str.ofString v.kind == Str.ofString "STRING") = v.isS := by cases v <;> (dsimp only [V.kind, V.isI, V.isS, V.isC]; decide +kernel)
theorem kindP (v : V) : (Str.ofString v.kind == Str.ofString "PATTERN") = v.isC 68 := by cases v <;> (dsimp only [V.kind, V.isI, V.isS, V.isC]; decide +kernel)
theorem kindE (v : V) : (Str.ofString v.kind == Str.ofString "EXPRESSION") = v.isC 89 := by cases v <;> (dsimp only [V.kind, V.isI, V.isS, V.isC]; decide +kernel)
theorem kindN (v : V) : (Str.ofString v.kind == Str.ofString "NAME") = v.isC 131 := by cases v <;> (dsimp only [V.kind, V.isI, V.isS, V.isC]; decide +kernel)
theorem kindH (v : V) : (Str.ofString v.kind == Str.ofString "NODE") = v.isC 152 := by cases v <;> (dsimp only [V.kind, V.isI, V.isS, V.isC]; decide +kernel)
theorem kindA (v : V) : (Str.ofString v.kind == Str.ofString "ARRAY") = false := by cases v <;> (dsimp only [V.kind, V.isI, V.isS, V.isC]; decide +kernel)
section
variable {prog : Program} {w : World} {A : Around} {E : Value → Shared → Prop} {s : Shared} {Q : Value → Shared → Prop} {v v' : V} {t t' : Tok}
theorem cmp_kindI (h : Q (.bool v.isI) s) : wpAny (model prog w) A (compareOp .Eq (.str (Str.ofString v.kind) t) (.str (Str.ofString "INTEGER") t')) Q E s := eq_str (by rw [kindI]; exact h)
theorem cmp_kindS (h : Q (.bool v.isS) s) : wpAny (model prog w) A (compareOp .Eq (.str (Str.ofString v.kind) t) (.str (Str.ofString "STRING") t')) Q E s := eq_str (by rw [kindS]; exact h)
theorem cmp_kindP (h : Q (.bool (v.isC 68)) s) : wpAny (model prog w) A (compareOp .Eq (.str (Str.ofString v.kind) t) (.str (Str.ofString "PATTERN") t')) Q E s := eq_str (by rw [kindP]; exact h)
theorem cmp_kindE (h : Q (.bool (v.isC 89)) s) : wpAny (model prog w) A (compareOp .Eq (.str (Str.ofString v.kind) t) (.str (Str.ofString "EXPRESSION") t')) Q E s := eq_str (by rw [kindE]; exact h)
theorem cmp_kindN (h : Q (.bool (v.isC 131)) s) : wpAny (model prog w) A (compareOp .Eq (.str (Str.ofString v.kind) t) (.str (Str.ofString "NAME") t')) Q E s := eq_str (by rw [kindN]; exact h)
theorem cmp_kindH (h : Q (.bool (v.isC 152)) s) : wpAny (model prog w) A (compareOp .Eq (.str (Str.ofString v.kind) t) (.str (Str.ofString "NODE") t')) Q E s := eq_str (by rw [kindH]; exact h)
theorem cmp_kindA (h : Q (.bool false) s) : wpAny (model prog w) A (compareOp .Eq (.str (Str.ofString v.kind) t) (.str (Str.ofString "ARRAY") t')) Q E s := eq_str (by rw [kindA]; exact h)
theorem cmp_kindO (h : Q (.bool true) s) : wpAny (model prog w) A (compareOp .Eq (.str (Str.ofString v.kind) t) (.str (Str.ofString v.kind) t')) Q E s := eq_str (by rw [beq_self_eq_true]; exact h)
end
theorem ne_of_obj {h₀ h : Heap} {L a b : Addr} {o o' : Obj} {ns : List (Addr × Obj)} (N : News h₀ L h ns) (h1 : (a, o) ∈ ns) (h2 : (b, o') ∈ ns) (h : o.cls ≠ o'.cls) : a ≠ b := by
  rintro rfl
  have e1 := (N _ h1).1
  have e2 := (N _ h2).1
  rw [show ((a, o) : Addr × Obj).1 = (a, o').1 from rfl, e2] at e1
  exact h (congrArg Obj.cls (Option.some.inj e1).symm)
/-- what a value leans on stands on where one list or one table was changed -/
theorem Bears.via {w : World} {ns ns' : List (Addr × Obj)} {v : V} {val : Value} (k1 : ∀ a C d, (a, instObj C d) ∈ ns → (a, instObj C d) ∈ ns') (k2 : ∀ a es n, (a, dictOf es n) ∈ ns → (a, dictOf es n) ∈ ns') (k3 : ∀ a l n, (a, tupO l n) ∈ ns → (a, tupO l n) ∈ ns') (hb : Bears w ns v val) : Bears w ns' v val := by
  cases v with
  | int n => exact hb
  | str n => exact hb
  | pat j => obtain ⟨p, d, tp, t1, t2, t3, c, e, hp, hd, ht⟩ := hb; exact ⟨p, d, tp, t1, t2, t3, c, e, k1 _ _ _ hp, k2 _ _ _ hd, k3 _ _ _ ht⟩
  | dly j => obtain ⟨p, d, tp, t1, t2, t3, c, e, hp, hd, ht⟩ := hb; exact ⟨p, d, tp, t1, t2, t3, c, e, k1 _ _ _ hp, k2 _ _ _ hd, k3 _ _ _ ht⟩
  | name j => obtain ⟨p, d, t1, t2, t3, t4, t5, e, hp, hd⟩ := hb; exact ⟨p, d, t1, t2, t3, t4, t5, e, k1 _ _ _ hp, k2 _ _ _ hd⟩
  | node j => obtain ⟨p, d, t1, t2, t3, t4, t5, t6, e, hp, hd⟩ := hb; exact ⟨p, d, t1, t2, t3, t4, t5, t6, e, k1 _ _ _ hp, k2 _ _ _ hd⟩
theorem Bears.keep {w : World} {h₀ h : Heap} {L P : Addr} {oP : Obj} {ns ns' : List (Addr × Obj)} {v : V} {val : Value} (N : News h₀ L h ns) (hP : (P, oP) ∈ ns) (hc : oP.cls = .none ∨ oP.cls = .type "list")
    (k : ∀ p ∈ ns, p.1 ≠ P → p ∈ ns') (hb : Bears w ns v val) : Bears w ns' v val := by
  have go : ∀ {a : Addr} {o : Obj}, (a, o) ∈ ns → o.cls ≠ .none → o.cls ≠ .type "list" → (a, o) ∈ ns' := fun hm n1 n2 => k _ hm (ne_of_obj N hm hP (by rcases hc with e | e <;> rw [e] <;> assumption))
  exact hb.via (fun _ _ _ h => go h (by simp) (by simp)) (fun _ _ _ h => go h (by simp) (by simp)) (fun _ _ _ h => go h (by simp) (by simp))
theorem Bears.more {w : World} {ns ns' : List (Addr × Obj)} {v : V} {val : Value} (k : ∀ p ∈ ns, p ∈ ns') (hb : Bears w ns v val) : Bears w ns' v val :=
  hb.via (fun _ _ _ h => k _ h) (fun _ _ _ h => k _ h) (fun _ _ _ h => k _ h)
theorem TabW.more {qual : Str} {ns ns' : List (Addr × Obj)} {P : Addr} (k : ∀ p ∈ ns, p ∈ ns') (W : TabW qual ns P) : TabW qual ns' P := by
  obtain ⟨ps, h1, h2, h3⟩ := W
  refine ⟨ps, k _ h1, h2, fun pos v e => ?_⟩
  obtain ⟨c', oc, vs, t, e1, e2, e3⟩ := h3 pos v e
  exact ⟨c', oc, vs, t, e1, k _ e2, e3⟩
/-- a contract for the law's own frame alone (nothing below it): what it calls may catch -/
noncomputable def TellsB (w : World) (d u : Nat) (f : Addr) (vs : List Value) (pre : List (Addr × Obj) → Prop)
    (post : List (Addr × Obj) → Value → List (Addr × Obj) → Prop) : Prop :=
  ∀ (cn : Str) (sn : List (Str × NameKind)) (sg sc : Bool) (sm : _) (a : Addr) (ccd : Value) (cl : List (Str × Addr)) (A₀ : Around) (base h₀ : Heap) (L : Addr) (m : Str → Option Value)
    (news : List (Addr × Obj)) (s : Shared) (Q E : Value → Shared → Prop) (mean : ExcName → Option Value) (mg mb : Str → Option Value),
    Below A₀ base [] h₀ → Fr h₀ L s.heap m → (hd.heap_1 w.params).In h₀ → News h₀ L s.heap news → Top topProg LS mean mg mb h₀ → (hd.heap_1 w.params).In base → Top topProg LS mean mg mb base →
    CodeHd base 407 403 → CodeHd base 412 410 → pre news →
    (∀ v news' h' tk', Fr h₀ L h' m → News h₀ L h' news' → post news v news' → Q v { s with heap := h', toks := tk' }) →
    wpAny (model PySem.Challenge.rw_np0298_01.row.prog w) (ktrTop d u none cn ⟨.function, sn, sg, sc, sm⟩ L a ccd cl []) (call (.ref f) vs) Q E s
theorem fr_same {g g' h : Heap} {L : Addr} {m : Str → Option Value} (T : KtsTurn [] g g') (F : Fr g' L h m) : Fr g L h m := ⟨F.ns, fun b o e => F.keep _ _ (T.other b o e (by simp)), by rw [← T.size]; exact F.above⟩
theorem news_same {g g' h : Heap} {L : Addr} {ns : List (Addr × Obj)} (T : KtsTurn [] g g') (N : News g' L h ns) : News g L h ns := fun p hp => ⟨(N p hp).1, (N p hp).2.1, by
  cases q : g.get? p.1 with
  | none => rfl
  | some o => have := T.other _ _ q (by simp); rw [(N p hp).2.2] at this; cases this⟩
theorem cellV {o : Obj} {x y : Option Value} (h : o.data = .cell x) (e : x = y) : o.data = .cell y := e ▸ h
theorem Bears.at {w : World} {h₀ h : Heap} {L : Addr} {ns ns' : List (Addr × Obj)} {v : V} {val : Value} (hb : Bears w ns v val) (_N : News h₀ L h ns') (k : ∀ p ∈ ns, p ∈ ns') : Bears w ns' v val := hb.more k
theorem TabW.at {qual : Str} {h₀ h : Heap} {L : Addr} {ns ns' : List (Addr × Obj)} {P : Addr} (W : TabW qual ns P) (_N : News h₀ L h ns') (k : ∀ p ∈ ns, p ∈ ns') : TabW qual ns' P := W.more k

theorem useH {w : World} {d u : Nat} {f : Addr} {pre : List (Addr × Obj) → Prop} {post : List (Addr × Obj) → Value → List (Addr × Obj) → Prop} {pX : Int → Prop}
    (C : Heard w d u f pre post pX) {dp un : Nat} {gd : Option (List Code)} {cn : Str} {sn : List (Str × NameKind)} {sg sc : Bool} {sm : List (Str × Const)} {a : Addr} {ccd : Value} {cl : List (Str × Addr)} {outer : List Env} {A₀ : Around} {base h₀ : Heap} {L : Addr} {m : Str → Option Value}
    {news : List (Addr × Obj)} {s : Shared} {Q E : Value → Shared → Prop} {mean : ExcName → Option Value} {mg mb : Str → Option Value}
 
    (XB : (hd.heap_1 w.params).In base) (TB : Top topProg LS mean mg mb base) (D : KtsDicts (outer.filterMap (·.frame)) h₀) (hp : pre news)
    (k : ∀ v news' h' tk', Fr h₀ L h' m → News h₀ L h' news' → post news v news' → Q v { s with heap := h', toks := tk' })
    (kX : ∀ g k tp t1 t2 c h' tk', pX k → KtsTurn (outer.filterMap (·.frame)) h₀ g → Fr g L h' m → News g L h' ((tp, tupO [.str (Str.ofString "error") t1, .int k t2] c) :: news) → Below A₀ base outer g → (hd.heap_1 w.params).In g → Top topProg LS mean mg mb g → KtsDicts (outer.filterMap (·.frame)) g →
      Q (.ref tp) { s with heap := h', toks := tk' })
    (hdp : dp ≤ d := by k_units) (hu : un ≤ u := by k_units) (B : Below A₀ base outer h₀ := by k_asm) (F : Fr h₀ L s.heap m := by k_asm) (X : (hd.heap_1 w.params).In h₀ := by k_asm) (N : News h₀ L s.heap news := by k_asm) (T : Top topProg LS mean mg mb h₀ := by k_asm) :
    wpAny (model PySem.Challenge.rw_np0298_01.row.prog w) (ktrTop dp un gd cn ⟨.function, sn, sg, sc, sm⟩ L a ccd cl outer) (call (.ref 387) [.ref f]) Q E s := by
  intro Γ p hΓ
  obtain ⟨g1, g2, g3, g4, g5⟩ := hΓ
  exact C cn sn sg sc sm a ccd cl outer A₀ base h₀ L m news s Q E mean mg mb B F X N T XB TB D hp k kX Γ p ⟨g1, Nat.le_trans g2 hdp, g3, fun _ e => (by cases e), Nat.le_trans g5 hu⟩
/-- the rest goes on from a turned ground -/
noncomputable def GCut (w : World) (fs : List Addr) (A₀ : Around) (base : Heap) (outer : List Env) (mean : ExcName → Option Value) (mg mb : Str → Option Value) (g₀ : Heap) (L : Addr) (m : Str → Option Value) (s : Shared) (P : List (Addr × Obj) → Prop) (f : Flow) (s' : Shared) : Prop :=
  f = .next ∧ ∃ g h' tk ns, s' = { s with heap := h', toks := tk } ∧ KtsTurn fs g₀ g ∧ Fr g L h' m ∧ News g L h' ns ∧ Below A₀ base outer g ∧ (hd.heap_1 w.params).In g ∧ Top topProg LS mean mg mb g ∧ KtsDicts fs g ∧ P ns
theorem GCut.intro {w : World} {fs : List Addr} {A₀ : Around} {base : Heap} {outer : List Env} {mean : ExcName → Option Value} {mg mb : Str → Option Value} {g₀ g : Heap} {L : Addr} {m : Str → Option Value} {s : Shared} {P : List (Addr × Obj) → Prop} {h' : Heap} {tk : Nat} {ns : List (Addr × Obj)}
    (T₀ : KtsTurn fs g₀ g) (F : Fr g L h' m) (N : News g L h' ns) (B : Below A₀ base outer g) (X : (hd.heap_1 w.params).In g) (T : Top topProg LS mean mg mb g) (D : KtsDicts fs g) (hP : P ns) :
    GCut w fs A₀ base outer mean mg mb g₀ L m s P .next { s with heap := h', toks := tk } := ⟨rfl, g, h', tk, ns, rfl, T₀, F, N, B, X, T, D, hP⟩
theorem cut_gnd {w : World} {M : Model} {A : Around} {E : Value → Shared → Prop} {s : Shared} {t : Sem Flow} {Q : Flow → Shared → Prop} {fs : List Addr} {A₀ : Around} {base : Heap} {outer : List Env} {mean : ExcName → Option Value} {mg mb : Str → Option Value} {g₀ : Heap} {L : Addr} {m : Str → Option Value} (P : List (Addr × Obj) → Prop) (_F : Fr g₀ L s.heap m) (_B : Below A₀ base outer g₀) (_X : (hd.heap_1 w.params).In g₀) (_T : Top topProg LS mean mg mb g₀) (_D : KtsDicts fs g₀)
    (h : wpAny M A t (GCut w fs A₀ base outer mean mg mb g₀ L m s P) E s)
    (k : ∀ g h' tk ns, KtsTurn fs g₀ g → Fr g L h' m → News g L h' ns → Below A₀ base outer g → (hd.heap_1 w.params).In g → Top topProg LS mean mg mb g → KtsDicts fs g → P ns → Q .next { s with heap := h', toks := tk }) : wpAny M A t Q E s := by
  refine wpAny_mono h (fun f s' q => ?_) fun _ _ e => e
  obtain ⟨rfl, g, h', tk, ns, rfl, T₀, F, N, B, X, T, D, hP⟩ := q
  exact k g h' tk ns T₀ F N B X T D hP
theorem TabW.mem {qual : Str} {ns : List (Addr × Obj)} {P : Addr} (W : TabW qual ns P) : ∃ ps, (P, tabObj ps) ∈ ns := by
  obtain ⟨ps, h, _⟩ := W
  exact ⟨ps, h⟩
theorem Bears.tab {w : World} {qual : Str} {h₀ h : Heap} {L P : Addr} {ns ns' : List (Addr × Obj)} {v : V} {val : Value} (hb : Bears w ns v val) (N : News h₀ L h ns) (W : TabW qual ns P)
    (k : ∀ p ∈ ns, p.1 ≠ P → p ∈ ns') : Bears w ns' v val := by
  obtain ⟨ps, hP⟩ := W.mem
  exact hb.keep N hP (.inl rfl) k

theorem TabW.keepM {qual : Str} {h₀ h : Heap} {L P a : Addr} {o : Obj} {ns ns' : List (Addr × Obj)} (W : TabW qual ns P) (N : News h₀ L h ns) (k : ∀ p ∈ ns, p.1 ≠ P → p ∈ ns') (hm : (a, o) ∈ ns) (hc : o.cls ≠ .none) : (a, o) ∈ ns' := by
  obtain ⟨ps, hP⟩ := W.mem
  exact k _ hm (ne_of_obj N hm hP hc)

end
local macro_rules | `(tactic| walk_at "compareOp Eq str str") => do
  let k ← ["I", "S", "P", "E", "N", "H", "A", "O"].mapM fun (x : String) => `(tactic| with_reducible refine $(Lean.mkIdent ("cmp_kind" ++ x).toName):ident ?_)
  `(tactic| (k_here; first $[| $(k.toArray):tactic]*))
local macro_rules | `(tactic| k_steps) => steps [387] ["pyIter _", "exec Stmt.While:4 _"]

section
theorem and5 {a b c d e G : Prop} (h : a ∧ b ∧ c ∧ d ∧ e) (k : a → b → c → d → e → G) : G := k h.1 h.2.1 h.2.2.1 h.2.2.2.1 h.2.2.2.2
theorem c_nright (w : World) (v : V) (val : Value) (wd : Int) (t0 tk : Tok) (h1 : 5 ≤ wd) (h2 : wd ≤ 40) (hv : v.ok) :
    TellsB w 620 500 408 [val, .str (Str.ofString v.kind) tk, .int wd t0] (fun ns => Bears w ns v val ∧ TabW (Str.ofString "_law_needs_right.<locals>.<lambda>") ns 403)
      (fun ns r ns' => r = .bool true ∧ (∀ p ∈ ns, p.1 ≠ 403 → p ∈ ns') ∧ TabW (Str.ofString "_law_needs_right.<locals>.<lambda>") ns' 403) := by
  unfold TellsB
  k_fill
  intro cn sn sg sc sm a ccd cl A₀ base h₀ L m news s Q E mean mg mb B F X N T XB TB C7 C12 hpre hret
  obtain ⟨hb, hW⟩ := hpre
  refine wpAny_call ?_
  refine' code_defSC B F X N T XB TB ktsDicts_nil KtsTurn.refl rfl rfl rfl ?k6 ?k7 ?k8 ?k9 ?kB ?kD ?_ ?c2 ?c3 ?c4
  case k6 => k_is
  case k7 => k_is
  case k8 => k_room
  case k9 => exact BindsTo.of_eq rfl
  case kB => exact rfl
  case kD => decide +kernel
  case c2 => exact rfl
  case c3 => exact rfl
  case c4 => exact rfl
  intro g' L' h' tk' cells' FG' F' N' Y' B' X' T' D' l1
  k_cells Y'
  rename_i o1 o2 d1 d2
  have dw : o1.data = .cell (some (.int wd t0)) := d1
  have dv : o2.data = .cell (some val) := d2
  clear d1 d2
  have l4 : @LT.lt Nat _ 403 L' := by
    obtain ⟨ps, hP⟩ := hW.mem
    exact l1 _ hP
  try simp only [List.cons_append, List.nil_append] at N'
  try dsimp only
  try k_lift B'
  try k_fold
  have hb := hb.at N' (fun p hp => .tail _ (.tail _ hp))
  have hW := hW.at N' (fun p hp => .tail _ (.tail _ hp))
  walk_at "my step"
  refine wpAny_execs_cons ?_
  (rename Fr _ _ _ _ => lF)
  (rename News _ _ _ _ => lN)
  refine cut_name (Str.ofString "number") (fun x => ∃ t, x = optV (v.whole wd) t) lF lN ?_ ?_
  case refine_1 =>
    k_fold
    k_steps
    all_goals first
      | (refine hb.opInt (by with_reducible assumption) fun n t e u => ?_
         subst u
         exact CutPost.intro (by with_reducible assumption) (by with_reducible assumption) (fun p hp => hp) (by rw [e]; exact ex_some rfl))
      | exact CutPost.intro (by with_reducible assumption) (by with_reducible assumption) (fun p hp => hp) (ex_none (V.wholeN (by with_reducible assumption) (by with_reducible assumption)))
      | exact CutPost.intro (by with_reducible assumption) (by with_reducible assumption) (fun p hp => hp) ⟨_, rfl⟩
  case refine_2 =>
  clear lF lN
  rintro h tk1 _ lF lN ⟨t1, rfl⟩
  refine wpAny_execs_cons ?_
  refine cut_name (Str.ofString "text") (fun x => ∃ t, x = optS v.text t) lF lN ?_ ?_
  case refine_1 =>
    k_fold
    k_steps
    all_goals first
      | (refine hb.opStr (by with_reducible assumption) fun n t e u => ?_
         subst u
         exact CutPost.intro (by with_reducible assumption) (by with_reducible assumption) (fun p hp => hp) (by rw [e]; exact exs_some rfl))
      | exact CutPost.intro (by with_reducible assumption) (by with_reducible assumption) (fun p hp => hp) (exs_none (V.textN (by with_reducible assumption) (by with_reducible assumption)))
      | exact CutPost.intro (by with_reducible assumption) (by with_reducible assumption) (fun p hp => hp) ⟨_, rfl⟩
  case refine_2 =>
  clear lF lN
  rintro h tk2 _ lF lN0 ⟨t2, rfl⟩
  have hk0 : ∀ p ∈ news, p.1 ≠ 403 → p ∈ (L' + 1 + 1, o1) :: (L' + 1, o2) :: news := fun p hp _ => .tail _ (.tail _ hp)
  have m1 : (L' + 1 + 1, o1) ∈ (L' + 1 + 1, o1) :: (L' + 1, o2) :: news := .head _
  have m2 : (L' + 1, o2) ∈ (L' + 1 + 1, o1) :: (L' + 1, o2) :: news := .tail _ (.head _)
  generalize hns : ((L' + 1 + 1, o1) :: (L' + 1, o2) :: news : List (Addr × Obj)) = ns at *
  clear hns
  refine wpAny_execs_cons ?_
  refine cut_gnd (fun ns' => (L' + 1 + 1, o1) ∈ ns' ∧ (L' + 1, o2) ∈ ns' ∧ Bears w ns' v val ∧ TabW (Str.ofString "_law_needs_right.<locals>.<lambda>") ns' 403 ∧ ∀ p ∈ news, p.1 ≠ 403 → p ∈ ns') lF B' X' T' D' ?_ ?_
  · k_fold
    k_steps
    have n1 : (L' + 1 + 1, o1) ∈ lns := lk _ m1 (Nat.ne_of_gt (Nat.lt_succ_of_lt (Nat.lt_succ_of_lt l4)))
    have n2 : (L' + 1, o2) ∈ lns := lk _ m2 (Nat.ne_of_gt (Nat.lt_succ_of_lt l4))
    have hb1 : Bears w lns v val := hb.tab lN0 hW lk
    have hk1 : ∀ p ∈ news, p.1 ≠ 403 → p ∈ lns := fun p hp hn => lk _ (hk0 _ hp hn) hn
    have C : TellsX w 650 650 lf [] (fun ns => ns = lns) (fun ns r ns' => ∃ n t, v.whole wd = some n ∧ r = .int n t ∧ ns' = ns) (fun k => k = 1 ∧ v.whole wd = none) := by
      unfold TellsX
      intro cn2 sn2 sg2 sc2 sm2 a2 ccd2 cl2 outer2 A2 base2 h2 L2 mm2 news2 s2 Q2 E2 mean2 mg2 mb2 B2 F2 X2 N2 T2 hpre2 hret2 hX2
      subst hpre2
      refine wpAny_call ?_
      kla_enter
      k_steps
      · exact hret2 _ _ _ _ (by with_reducible assumption) (by with_reducible assumption) ⟨_, _, hw9, rfl, rfl⟩
      · (((rename Below _ _ _ _ => zB); refine lv_on zB zFg zR0 zU0 ?_; intro zh zR zU))
        exact hX2 _ _ _ _ _ _ _ _ _ _ zk (by with_reducible assumption) zU zR
    try k_fold
    refine' useH (c_heard w lf C (fun ns e => ⟨_, _, e ▸ lm, rfl⟩)) XB TB ?k6 rfl ?_ ?_
    case k6 => assumption
    · intro v9 n9 h9 tk9 F9 N9 S9
      refine hideG fun H9 hG9 => ?_
      obtain ⟨n, t9, hw, rfl, rfl⟩ := S9
      refine hG9 ?_
      clear hG9 H9
      rw [hw] at F9
      dsimp only [optV] at F9
      k_steps
      · first | exact absurd rfl (by with_reducible assumption) | exact absurd (by with_reducible assumption : (n != n) = true) (by simp)
      · rw [hw]
        exact GCut.intro KtsTurn.refl (by assumption) (by with_reducible assumption) B' X' T' D' ⟨n1, n2, hb1, lW, hk1⟩
    · rintro g9 k9 tp9 t91 t92 c9 h9 tk9 ⟨rfl, hw⟩ T9 F9 N9 B9 X9 P9 D9
      rw [hw] at F9
      dsimp only [optV] at F9
      k_steps
      rw [hw]
      exact GCut.intro T9 (by assumption) (by with_reducible assumption) B9 X9 P9 D9 ⟨.tail _ (.tail _ n1), .tail _ (.tail _ n2), hb1.more (fun p hp => .tail _ (.tail _ hp)), lW.more (fun p hp => .tail _ (.tail _ hp)), fun p hp hn => .tail _ (.tail _ (hk1 p hp hn))⟩
  clear hb hW hk0 m1 m2 lF lN0 B' X' T' D' 
  intro g1 h tk3 ns1 T1 lF lN0 B' X' T' D' S9
  refine and5 S9 fun m1 m2 hb hW hk0 => ?_
  clear S9
  refine wpAny_execs_cons ?_
  refine cut_gnd (fun ns' => (L' + 1 + 1, o1) ∈ ns' ∧ (L' + 1, o2) ∈ ns' ∧ Bears w ns' v val ∧ TabW (Str.ofString "_law_needs_right.<locals>.<lambda>") ns' 403 ∧ ∀ p ∈ news, p.1 ≠ 403 → p ∈ ns') lF B' X' T' D' ?_ ?_
  · k_fold
    k_steps
    have n1 : (L' + 1 + 1, o1) ∈ lns := lk _ m1 (Nat.ne_of_gt (Nat.lt_succ_of_lt (Nat.lt_succ_of_lt l4)))
    have n2 : (L' + 1, o2) ∈ lns := lk _ m2 (Nat.ne_of_gt (Nat.lt_succ_of_lt l4))
    have hb1 : Bears w lns v val := hb.tab lN0 hW lk
    have hk1 : ∀ p ∈ news, p.1 ≠ 403 → p ∈ lns := fun p hp hn => lk _ (hk0 _ hp hn) hn
    have C : TellsX w 650 650 lf [] (fun ns => ns = lns) (fun ns r ns' => ∃ n t, v.text = some n ∧ r = .str n t ∧ ns' = ns) (fun k => k = 1 ∧ v.text = none) := by
      unfold TellsX
      intro cn2 sn2 sg2 sc2 sm2 a2 ccd2 cl2 outer2 A2 base2 h2 L2 mm2 news2 s2 Q2 E2 mean2 mg2 mb2 B2 F2 X2 N2 T2 hpre2 hret2 hX2
      subst hpre2
      refine wpAny_call ?_
      kla_enter
      k_steps
      · exact hret2 _ _ _ _ (by with_reducible assumption) (by with_reducible assumption) ⟨_, _, hw9, rfl, rfl⟩
      · (((rename Below _ _ _ _ => zB); refine lv_on zB zFg zR0 zU0 ?_; intro zh zR zU))
        exact hX2 _ _ _ _ _ _ _ _ _ _ zk (by with_reducible assumption) zU zR
    try k_fold
    refine' useH (c_heard w lf C (fun ns e => ⟨_, _, e ▸ lm, rfl⟩)) XB TB ?k6 rfl ?_ ?_
    case k6 => assumption
    · intro v9 n9 h9 tk9 F9 N9 S9
      refine hideG fun H9 hG9 => ?_
      obtain ⟨n, t9, hw, rfl, rfl⟩ := S9
      refine hG9 ?_
      clear hG9 H9
      rw [hw] at F9
      dsimp only [optS] at F9
      k_steps
      · first | exact absurd rfl (by with_reducible assumption) | exact absurd (by with_reducible assumption : (n != n) = true) (by simp)
      · rw [hw]
        exact GCut.intro KtsTurn.refl (by assumption) (by with_reducible assumption) B' X' T' D' ⟨n1, n2, hb1, lW, hk1⟩
    · rintro g9 k9 tp9 t91 t92 c9 h9 tk9 ⟨rfl, hw⟩ T9 F9 N9 B9 X9 P9 D9
      rw [hw] at F9
      dsimp only [optS] at F9
      k_steps
      rw [hw]
      exact GCut.intro T9 (by assumption) (by with_reducible assumption) B9 X9 P9 D9 ⟨.tail _ (.tail _ n1), .tail _ (.tail _ n2), hb1.more (fun p hp => .tail _ (.tail _ hp)), lW.more (fun p hp => .tail _ (.tail _ hp)), fun p hp hn => .tail _ (.tail _ (hk1 p hp hn))⟩
  clear hb hW hk0 m1 m2 lF lN0 B' X' T' D' 
  intro g2 h tk3 ns2 T2 lF lN0 B' X' T' D' S9
  refine and5 S9 fun m1 m2 hb hW hk0 => ?_
  clear S9
  cases hw : v.whole wd with
  | none =>
    rw [hw] at lF
    dsimp only [optV] at lF
    k_steps
    (rename News _ _ _ (_ :: ns2) => lN1)
    have mt := (hW.more (fun p hp => .tail _ hp)).keepM lN1 lk (.head _) (by simp)
    have lN0 := ncons lN1
    have lk2 : ∀ p ∈ ns2, p.1 ≠ 403 → p ∈ lns := fun p hp hn => lk _ (.tail _ hp) hn
    have n1 : (L' + 1 + 1, o1) ∈ lns := lk2 _ m1 (Nat.ne_of_gt (Nat.lt_succ_of_lt (Nat.lt_succ_of_lt l4)))
    have n2 : (L' + 1, o2) ∈ lns := lk2 _ m2 (Nat.ne_of_gt (Nat.lt_succ_of_lt l4))
    have hb1 : Bears w lns v val := hb.tab lN0 hW lk2
    have hk1 : ∀ p ∈ news, p.1 ≠ 403 → p ∈ lns := fun p hp hn => lk2 _ (hk0 _ hp hn) hn
    have C : TellsX w 650 650 lf [] (fun ns => ns = lns) (fun ns r ns' => ∃ n t, v.whole wd = some n ∧ 0 ≤ n ∧ r = .int n t ∧ ns' = ns) (fun k => (k = 1 ∧ v.whole wd = none) ∨ (k = 14 ∧ ∃ n, v.whole wd = some n ∧ n < 0)) := by
      unfold TellsX
      intro cn2 sn2 sg2 sc2 sm2 a2 ccd2 cl2 outer2 A2 base2 h2 L2 mm2 news2 s2 Q2 E2 mean2 mg2 mb2 B2 F2 X2 N2 T2 hpre2 hret2 hX2
      subst hpre2
      refine wpAny_call ?_
      kla_enter
      k_steps
      · exact hret2 _ _ _ _ (by with_reducible assumption) (by with_reducible assumption) ⟨_, _, hw9, hp9, rfl, rfl⟩
      · (((rename Below _ _ _ _ => zB); refine lv_on zB zFg zR0 zU0 ?_; intro zh zR zU))
        exact hX2 _ _ _ _ _ _ _ _ _ _ zk (by with_reducible assumption) zU zR
    try k_fold
    refine' useH (c_heard w lf C (fun ns e => ⟨_, _, e ▸ lm, rfl⟩)) XB TB ?k6 rfl ?_ ?_
    case k6 => assumption
    · rintro v9 n9 h9 tk9 F9 N9 ⟨n', t9, hw', hp', -⟩
      exact absurd (hw.symm.trans hw') (by nofun)
    · rintro g9 k9 tp9 t91 t92 c9 h9 tk9 hk T9 F9 N9 B9 X9 P9 D9
      obtain rfl : k9 = 1 := by
        rcases hk with ⟨e, e'⟩ | ⟨e, n, e', hlt⟩
        · exact e
        · rw [hw] at e'; cases e'
      have T10 := (T1.trans T2).trans T9
      clear T1 T2 T9
      k_steps
      (rename KtsTurn _ h₀ _ => zT)
      exact hret _ _ _ _ (fr_same zT (by with_reducible assumption)) (news_same zT (by with_reducible assumption)) ⟨by simp, fun p hp hn => by first | exact hk1 p hp hn | exact .tail _ (hk1 p hp hn), by first | exact lW | exact lW.more (fun p hp => .tail _ hp)⟩
  | some n =>
    rw [hw] at lF
    dsimp only [optV] at lF
    k_steps
    · skip
      (rename News _ _ _ (_ :: ns2) => lN1)
      have mt := (hW.more (fun p hp => .tail _ hp)).keepM lN1 lk (.head _) (by simp)
      have lN0 := ncons lN1
      have lk2 : ∀ p ∈ ns2, p.1 ≠ 403 → p ∈ lns := fun p hp hn => lk _ (.tail _ hp) hn
      have n1 : (L' + 1 + 1, o1) ∈ lns := lk2 _ m1 (Nat.ne_of_gt (Nat.lt_succ_of_lt (Nat.lt_succ_of_lt l4)))
      have n2 : (L' + 1, o2) ∈ lns := lk2 _ m2 (Nat.ne_of_gt (Nat.lt_succ_of_lt l4))
      have hb1 : Bears w lns v val := hb.tab lN0 hW lk2
      have hk1 : ∀ p ∈ news, p.1 ≠ 403 → p ∈ lns := fun p hp hn => lk2 _ (hk0 _ hp hn) hn
      have C : TellsX w 650 650 lf [] (fun ns => ns = lns) (fun ns r ns' => ∃ n t, v.whole wd = some n ∧ 0 ≤ n ∧ r = .int n t ∧ ns' = ns) (fun k => (k = 1 ∧ v.whole wd = none) ∨ (k = 14 ∧ ∃ n, v.whole wd = some n ∧ n < 0)) := by
        unfold TellsX
        intro cn2 sn2 sg2 sc2 sm2 a2 ccd2 cl2 outer2 A2 base2 h2 L2 mm2 news2 s2 Q2 E2 mean2 mg2 mb2 B2 F2 X2 N2 T2 hpre2 hret2 hX2
        subst hpre2
        refine wpAny_call ?_
        kla_enter
        k_steps
        · exact hret2 _ _ _ _ (by with_reducible assumption) (by with_reducible assumption) ⟨_, _, hw9, hp9, rfl, rfl⟩
        · (((rename Below _ _ _ _ => zB); refine lv_on zB zFg zR0 zU0 ?_; intro zh zR zU))
          exact hX2 _ _ _ _ _ _ _ _ _ _ zk (by with_reducible assumption) zU zR
      try k_fold
      refine' useH (c_heard w lf C (fun ns e => ⟨_, _, e ▸ lm, rfl⟩)) XB TB ?k6 rfl ?_ ?_
      case k6 => assumption
      · rintro v9 n9 h9 tk9 F9 N9 ⟨n', t9, hw', hp', -⟩
        exfalso
        obtain rfl := Option.some.inj (hw.symm.trans hw')
        omega
      · rintro g9 k9 tp9 t91 t92 c9 h9 tk9 hk T9 F9 N9 B9 X9 P9 D9
        obtain rfl : k9 = 14 := by
          rcases hk with ⟨e, e'⟩ | ⟨e, n, e', hlt⟩
          · rw [hw] at e'; cases e'
          · exact e
        have T10 := (T1.trans T2).trans T9
        clear T1 T2 T9
        k_steps
        (rename KtsTurn _ h₀ _ => zT)
        exact hret _ _ _ _ (fr_same zT (by with_reducible assumption)) (news_same zT (by with_reducible assumption)) ⟨by simp, fun p hp hn => by first | exact hk1 p hp hn | exact .tail _ (hk1 p hp hn), by first | exact lW | exact lW.more (fun p hp => .tail _ hp)⟩
    · skip
      (rename News _ _ _ ns2 => lN0)
      have lk2 : ∀ p ∈ ns2, p.1 ≠ 403 → p ∈ lns := lk
      have n1 : (L' + 1 + 1, o1) ∈ lns := lk2 _ m1 (Nat.ne_of_gt (Nat.lt_succ_of_lt (Nat.lt_succ_of_lt l4)))
      have n2 : (L' + 1, o2) ∈ lns := lk2 _ m2 (Nat.ne_of_gt (Nat.lt_succ_of_lt l4))
      have hb1 : Bears w lns v val := hb.tab lN0 hW lk2
      have hk1 : ∀ p ∈ news, p.1 ≠ 403 → p ∈ lns := fun p hp hn => lk2 _ (hk0 _ hp hn) hn
      have C : TellsX w 650 650 lf [] (fun ns => ns = lns) (fun ns r ns' => ∃ n t, v.whole wd = some n ∧ 0 ≤ n ∧ r = .int n t ∧ ns' = ns) (fun k => (k = 1 ∧ v.whole wd = none) ∨ (k = 14 ∧ ∃ n, v.whole wd = some n ∧ n < 0)) := by
        unfold TellsX
        intro cn2 sn2 sg2 sc2 sm2 a2 ccd2 cl2 outer2 A2 base2 h2 L2 mm2 news2 s2 Q2 E2 mean2 mg2 mb2 B2 F2 X2 N2 T2 hpre2 hret2 hX2
        subst hpre2
        refine wpAny_call ?_
        kla_enter
        k_steps
        · exact hret2 _ _ _ _ (by with_reducible assumption) (by with_reducible assumption) ⟨_, _, hw9, hp9, rfl, rfl⟩
        · (((rename Below _ _ _ _ => zB); refine lv_on zB zFg zR0 zU0 ?_; intro zh zR zU))
          exact hX2 _ _ _ _ _ _ _ _ _ _ zk (by with_reducible assumption) zU zR
      try k_fold
      refine' useH (c_heard w lf C (fun ns e => ⟨_, _, e ▸ lm, rfl⟩)) XB TB ?k6 rfl ?_ ?_
      case k6 => assumption
      · intro v9 n9 h9 tk9 F9 N9 S9
        refine hideG fun H9 hG9 => ?_
        obtain ⟨n', t9, hw', hp', rfl, rfl⟩ := S9
        refine hG9 ?_
        clear hG9 H9
        obtain rfl := Option.some.inj (hw.symm.trans hw')
        have T10 := T1.trans T2
        clear T1 T2
        k_steps
        (rename KtsTurn _ h₀ _ => zT)
        exact hret _ _ _ _ (fr_same zT (by with_reducible assumption)) (news_same zT (by with_reducible assumption)) ⟨by simp, fun p hp hn => by first | exact hk1 p hp hn | exact .tail _ (hk1 p hp hn), by first | exact lW | exact lW.more (fun p hp => .tail _ hp)⟩
      · rintro g9 k9 tp9 t91 t92 c9 h9 tk9 hk T9 F9 N9 B9 X9 P9 D9
        exfalso
        rcases hk with ⟨e, e'⟩ | ⟨e, n', e', hlt⟩
        · rw [hw] at e'; cases e'
        · rw [hw] at e'; cases e'; omega

end

section
/-- the law's world: what its dict says of the two sizes -/
inductive Wrd (ns : List (Addr × Obj)) (wv : Value) (wd ml : Int) : Prop
  | mk (p d : Addr) (es : List DictEntry) (n : Nat) (t1 t2 : Tok) (e : wv = .ref p) (h1 : (p, instObj 265 d) ∈ ns) (h2 : (d, dictOf es n) ∈ ns) (r : es.any (·.refKey) = false ∧ es.length ≤ 30 ∧
    getL (Str.ofString "width") es = some (some (.int wd t1)) ∧ getL (Str.ofString "most_length") es = some (some (.int ml t2)) ∧ ∃ u, getL (Str.ofString "keywords") es = some (some u)) : Wrd ns wv wd ml
theorem Wrd.more {ns ns' : List (Addr × Obj)} {wv : Value} {wd ml : Int} (k : ∀ p ∈ ns, p ∈ ns') (W : Wrd ns wv wd ml) : Wrd ns' wv wd ml := by
  obtain ⟨p, d, es, n, t1, t2, e, h1, h2, r⟩ := W
  exact ⟨p, d, es, n, t1, t2, e, k _ h1, k _ h2, r⟩
theorem Wrd.of {ns : List (Addr × Obj)} {p d : Addr} {es : List DictEntry} {n : Nat} {t1 t2 : Tok} {wd ml : Int} (h1 : (p, instObj 265 d) ∈ ns) (h2 : (d, dictOf es n) ∈ ns) (h3 : es.any (·.refKey) = false) (h4 : es.length ≤ 30)
    (h5 : getL (Str.ofString "width") es = some (some (.int wd t1))) (h6 : getL (Str.ofString "most_length") es = some (some (.int ml t2))) {u : Value} (h7 : getL (Str.ofString "keywords") es = some (some u)) : Wrd ns (.ref p) wd ml := ⟨p, d, es, n, t1, t2, rfl, h1, h2, h3, h4, h5, h6, u, h7⟩
theorem isStr_of {x y : Str} {k : Value} (h : k.isStr x = true) (n : (x == y) = false) : k.isStr y = false := by
  cases k <;> try cases h
  rename_i s t
  have e : s = x := by simpa [Value.isStr] using h
  subst e
  exact n
theorem put_any (x : Str) (hs : Int) (k v : Value) (hk : k.isStr x = true) : ∀ es : List DictEntry, es.any (·.refKey) = false → (putL x hs k v es).any (·.refKey) = false
  | [], _ => by
    cases k <;> try cases hk
    rfl
  | e :: r, h => by
    rw [List.any_cons, Bool.or_eq_false_iff] at h
    unfold putL
    split
    · rw [List.any_cons, Bool.or_eq_false_iff]; exact h
    · rw [List.any_cons, Bool.or_eq_false_iff]; exact ⟨h.1, put_any x hs k v hk r h.2⟩
theorem put_len (x : Str) (hs : Int) (k v : Value) : ∀ es : List DictEntry, (putL x hs k v es).length ≤ es.length + 1
  | [] => Nat.le_refl _
  | e :: r => by
    unfold putL
    split
    · exact Nat.le_succ _
    · exact Nat.succ_le_succ (put_len x hs k v r)
theorem put_find (x y : Str) (hs : Int) (t : Tok) (v : Value) : ∀ es : List DictEntry, (putL x hs (.str x t) v es).find? (·.key.isStr y) = (if x == y then (putL x hs (.str x t) v es).find? (·.key.isStr y) else es.find? (·.key.isStr y))
  | [] => by
    split
    · rfl
    · rename_i n
      simp only [putL, List.find?_cons, Value.isStr]
      rw [Bool.eq_false_iff.mpr n]
  | e :: r => by
    split
    · rfl
    · rename_i n
      have ih := put_find x y hs t v r
      rw [if_neg n] at ih
      unfold putL
      split
      · rename_i q
        simp only [List.find?_cons, isStr_of q (Bool.eq_false_iff.mpr n)]
      · simp only [List.find?_cons, ih]
theorem get_put_ne {x y : Str} {hs : Int} {t : Tok} {v u : Value} {es : List DictEntry} (n : (x == y) = false) (h : getL y es = some (some u)) : getL y (putL x hs (.str x t) v es) = some (some u) := by
  unfold getL at h ⊢
  rw [put_find, n]
  cases hf : es.find? (·.key.isStr y) with
  | none => rw [hf] at h; dsimp only at h; split at h <;> cases h
  | some e => rw [hf] at h; simpa using h
theorem put_same {x : Str} {hs : Int} {t : Tok} {v : Value} : ∀ {es : List DictEntry}, ∃ e, (putL x hs (.str x t) v es).find? (·.key.isStr x) = some e ∧ e.val = v
  | [] => ⟨_, by simp only [putL, List.find?_cons, Value.isStr, beq_self_eq_true]; rfl, rfl⟩
  | e :: r => by
    obtain ⟨e', h1, h2⟩ := @put_same x hs t v r
    unfold putL
    split
    · rename_i q
      exact ⟨_, by simp only [List.find?_cons, q]; rfl, rfl⟩
    · rename_i q
      exact ⟨e', by simp only [List.find?_cons, Bool.eq_false_iff.mpr q, h1], h2⟩
theorem get_put {x : Str} {hs : Int} {t : Tok} {v : Value} {es : List DictEntry} : getL x (putL x hs (.str x t) v es) = some (some v) := by
  obtain ⟨e, h1, h2⟩ := @put_same x hs t v es
  unfold getL
  rw [h1]
  show some (some e.val) = _
  rw [h2]
/-- while the world is being made: what its dict says so far -/
noncomputable def WB (old : List (Addr × Obj)) (p d : Addr) (k : Nat) (P : List DictEntry → Prop) (ns : List (Addr × Obj)) : Prop :=
  ∃ es n, (p, instObj 265 d) ∈ ns ∧ (d, dictOf es n) ∈ ns ∧ es.any (·.refKey) = false ∧ es.length ≤ k ∧ P es ∧ ∀ q ∈ old, q.1 ≠ d ∧ q ∈ ns
theorem WB.more {old ns ns' : List (Addr × Obj)} {p d : Addr} {k : Nat} {P : List DictEntry → Prop} (W : WB old p d k P ns) (h : ∀ q ∈ ns, q ∈ ns') : WB old p d k P ns' := by
  obtain ⟨es, n, a, b, c, e, f, g⟩ := W
  exact ⟨es, n, h _ a, h _ b, c, e, f, fun q hq => ⟨(g q hq).1, h _ (g q hq).2⟩⟩
theorem wb_set {w : World} {A : Around} {E : Value → Shared → Prop} {s : Shared} {h₀ : Heap} {L p d : Addr} {m : Str → Option Value} {old ns : List (Addr × Obj)} {k : Nat} {P : List DictEntry → Prop} (P' : List DictEntry → Prop) {x : Str} {v : Value} {Q : Unit → Shared → Prop}
    (F : Fr h₀ L s.heap m) (X : (hd.heap_1 w.params).In h₀) (N : News h₀ L s.heap ns) (W : WB old p d k P ns) (hk : k + 1 ≤ 1000) (ht : takerIn (hd.heap_1 w.params) 265 x = some none)
    (hp : ∀ es hs t, P es → P' (putL x hs (.str x t) v es))
    (h : ∀ h' tk ns', Fr h₀ L h' m → News h₀ L h' ns' → WB old p d (k + 1) P' ns' → Q () { s with heap := h', toks := tk }) :
    wpAny (model PySem.Challenge.rw_np0298_01.row.prog w) A (setAttr (.ref p) x v) Q E s := by
  revert X
  k_fill
  intro X
  obtain ⟨es, n, a, b, c, e, f, g⟩ := W
  have hpd : p ≠ d := ne_of_obj N a b (by simp)
  have N1 : News h₀ L s.heap ((d, dictOf es n) :: except d ns) := nsub N fun q hq => by
    rcases List.mem_cons.mp hq with rfl | hq
    · exact b
    · exact (mem_except.mp hq).1
  refine set_dict (C := 265) (dx := d) F X N1 (InstAt.of_news N a b) rfl ?_ ?_ ht ?_ ?_ rfl (.head fun q hq => (mem_except.mp hq).2) (Nat.le_trans (put_len _ _ _ _ _) (by omega)) fun h' F' N' => h _ _ _ F' N' ?_
  · k_is
  · k_is
  · k_is
  · unfold getL
    split
    · rfl
    · rw [c]; rfl
  · exact ⟨_, _, .tail _ (mem_except.mpr ⟨a, hpd⟩), .head _, put_any _ _ _ _ (by simp [Value.isStr]) _ c, Nat.le_trans (put_len _ _ _ _ _) (by omega), hp _ _ _ f, fun q hq => ⟨(g q hq).1, .tail _ (mem_except.mpr ⟨(g q hq).2, (g q hq).1⟩)⟩⟩
noncomputable def Pa (wd : Int) (es : List DictEntry) : Prop := ∃ t, getL (Str.ofString "width") es = some (some (.int wd t))
noncomputable def Pb (wd : Int) (es : List DictEntry) : Prop := Pa wd es ∧ ∃ t, getL (Str.ofString "most_length") es = some (some (.int 5000 t))
noncomputable def Pc (wd : Int) (es : List DictEntry) : Prop := Pb wd es ∧ ∃ u, getL (Str.ofString "keywords") es = some (some u)
theorem Pa.put {wd : Int} {x : Str} {v : Value} (n : (x == Str.ofString "width" || x == Str.ofString "most_length" || x == Str.ofString "keywords") = false) (es : List DictEntry) (hs : Int) (t : Tok) : Pa wd es → Pa wd (putL x hs (.str x t) v es) := fun ⟨_, e⟩ => by
  simp only [Bool.or_eq_false_iff] at n
  exact ⟨_, get_put_ne n.1.1 e⟩
theorem Pa.pb {wd : Int} {v : Value} {t0 : Tok} (hv : v = .int 5000 t0) (n : (Str.ofString "most_length" == Str.ofString "width") = false) (es : List DictEntry) (hs : Int) (t : Tok) : Pa wd es → Pb wd (putL (Str.ofString "most_length") hs (.str (Str.ofString "most_length") t) v es) := fun ⟨_, e⟩ =>
  ⟨⟨_, get_put_ne n e⟩, t0, by rw [← hv]; exact get_put⟩
theorem Pb.put {wd : Int} {x : Str} {v : Value} (n : (x == Str.ofString "width" || x == Str.ofString "most_length" || x == Str.ofString "keywords") = false) (es : List DictEntry) (hs : Int) (t : Tok) : Pb wd es → Pb wd (putL x hs (.str x t) v es) := fun ⟨a, _, e⟩ => by
  refine ⟨a.put n es hs t, ?_⟩
  simp only [Bool.or_eq_false_iff] at n
  exact ⟨_, get_put_ne n.1.2 e⟩
theorem Pb.pc {wd : Int} {v : Value} (n : (Str.ofString "keywords" == Str.ofString "width") = false) (n' : (Str.ofString "keywords" == Str.ofString "most_length") = false) (es : List DictEntry) (hs : Int) (t : Tok) : Pb wd es → Pc wd (putL (Str.ofString "keywords") hs (.str (Str.ofString "keywords") t) v es) := fun ⟨⟨_, a⟩, _, e⟩ =>
  ⟨⟨⟨_, get_put_ne n a⟩, _, get_put_ne n' e⟩, _, get_put⟩
theorem Pc.put {wd : Int} {x : Str} {v : Value} (n : (x == Str.ofString "width" || x == Str.ofString "most_length" || x == Str.ofString "keywords") = false) (es : List DictEntry) (hs : Int) (t : Tok) : Pc wd es → Pc wd (putL x hs (.str x t) v es) := fun ⟨a, _, e⟩ => by
  refine ⟨a.put n es hs t, ?_⟩
  simp only [Bool.or_eq_false_iff] at n
  exact ⟨_, get_put_ne n.2 e⟩
theorem WB.start {h₀ h : Heap} {L : Addr} {old : List (Addr × Obj)} {p d : Addr} (_N : News h₀ L h ((p, instObj 265 d) :: (d, dictOf [] 0) :: old)) (l : ∀ q ∈ old, q.1 < d) : WB old p d 0 (fun _ => True) ((p, instObj 265 d) :: (d, dictOf [] 0) :: old) :=
  ⟨[], 0, .head _, .tail _ (.head _), rfl, Nat.le_refl _, trivial, fun q hq => ⟨Nat.ne_of_lt (l q hq), .tail _ (.tail _ hq)⟩⟩
theorem WB.wrd {old ns : List (Addr × Obj)} {p d : Addr} {k : Nat} {wd : Int} (hk : k ≤ 30) (W : WB old p d k (Pc wd) ns) : (∀ q ∈ old, q ∈ ns) ∧ Wrd ns (.ref p) wd 5000 := by
  obtain ⟨es, n, a, b, c, e, ⟨⟨⟨_, f1⟩, _, f2⟩, _, f3⟩, g⟩ := W
  exact ⟨fun q hq => (g q hq).2, Wrd.of a b c (Nat.le_trans e hk) f1 f2 f3⟩
local macro_rules | `(tactic| k_steps) => steps [] ["setAttr _ _ _"]
theorem c_world (w : World) (wd : Int) (t0 : Tok) (h1 : 5 ≤ wd) (h2 : wd ≤ 40) {dp un : Nat} (hdp : dp ≤ 700) (hun : un ≤ 900) {gd : Option (List Code)}
    {cn : Str} {sn : List (Str × NameKind)} {sg sc : Bool} {sm : _} {a : Addr} {ccd : Value} {cl : List (Str × Addr)} {outer : List Env} {A₀ : Around} {base h₀ : Heap} {L : Addr} {m : Str → Option Value}
    {news : List (Addr × Obj)} {s : Shared} {Q E : Value → Shared → Prop} {mean : ExcName → Option Value} {mg mb : Str → Option Value}
    (B : Below A₀ base outer h₀) (F : Fr h₀ L s.heap m) (X : (hd.heap_1 w.params).In h₀) (N : News h₀ L s.heap news) (T : Top topProg LS mean mg mb h₀)
    (hret : ∀ v news' h' tk', Fr h₀ L h' m → News h₀ L h' news' → (∀ p ∈ news, p ∈ news') → Wrd news' v wd 5000 → Q v { s with heap := h', toks := tk' }) :
    wpAny (model PySem.Challenge.rw_np0298_01.row.prog w) (ktrTop dp un gd cn ⟨.function, sn, sg, sc, sm⟩ L a ccd cl outer) (call (.ref 265) [] [(Str.ofString "width", .int wd t0)]) Q E s := by
  suffices H : wpAny (model PySem.Challenge.rw_np0298_01.row.prog w) (ktrTop 700 900 none cn ⟨.function, sn, sg, sc, sm⟩ L a ccd cl outer) (call (.ref 265) [] [(Str.ofString "width", .int wd t0)]) Q E s by
    intro Γ p hΓ
    obtain ⟨g1, g2, g3, g4, g5⟩ := hΓ
    exact H Γ p ⟨g1, Nat.le_trans g2 hdp, g3, fun _ e => (by cases e), Nat.le_trans g5 hun⟩
  revert B F X N T hret
  k_fill
  intro B F X N T hret
  k_steps
  (rename News _ _ _ (_ :: _ :: news) => lN0)
  (rename ∀ p ∈ news, p.1 < _ => l1)
  have W := WB.start lN0 l1
  (rename News _ _ _ _ => lN)
  refine wb_set (Pa wd) (by k_asm) (by k_asm) lN (W.more ?m) (Nat.le_of_ble_eq_true rfl) (by k_is) (fun _ _ _ _ => ⟨_, get_put⟩) ?_
  case m => exact fun q hq => (by first | exact hq | exact .tail _ hq | exact .tail _ (.tail _ hq))
  clear lN W
  intro _ _ _ lF lN W
  k_steps
  (rename News _ _ _ _ => lN)
  refine wb_set (Pa wd) (by k_asm) (by k_asm) lN (W.more ?m) (Nat.le_of_ble_eq_true rfl) (by k_is) (Pa.put (by decide +kernel)) ?_
  case m => exact fun q hq => (by first | exact hq | exact .tail _ hq | exact .tail _ (.tail _ hq))
  clear lN W
  intro _ _ _ lF lN W
  k_steps
  (rename News _ _ _ _ => lN)
  refine wb_set (Pa wd) (by k_asm) (by k_asm) lN (W.more ?m) (Nat.le_of_ble_eq_true rfl) (by k_is) (Pa.put (by decide +kernel)) ?_
  case m => exact fun q hq => (by first | exact hq | exact .tail _ hq | exact .tail _ (.tail _ hq))
  clear lN W
  intro _ _ _ lF lN W
  k_steps
  (rename News _ _ _ _ => lN)
  refine wb_set (Pb wd) (by k_asm) (by k_asm) lN (W.more ?m) (Nat.le_of_ble_eq_true rfl) (by k_is) (Pa.pb rfl (by decide +kernel)) ?_
  case m => exact fun q hq => (by first | exact hq | exact .tail _ hq | exact .tail _ (.tail _ hq))
  clear lN W
  intro _ _ _ lF lN W
  k_steps
  (rename News _ _ _ _ => lN)
  refine wb_set (Pb wd) (by k_asm) (by k_asm) lN (W.more ?m) (Nat.le_of_ble_eq_true rfl) (by k_is) (Pb.put (by decide +kernel)) ?_
  case m => exact fun q hq => (by first | exact hq | exact .tail _ hq | exact .tail _ (.tail _ hq))
  clear lN W
  intro _ _ _ lF lN W
  k_steps
  (rename News _ _ _ _ => lN)
  refine wb_set (Pb wd) (by k_asm) (by k_asm) lN (W.more ?m) (Nat.le_of_ble_eq_true rfl) (by k_is) (Pb.put (by decide +kernel)) ?_
  case m => exact fun q hq => (by first | exact hq | exact .tail _ hq | exact .tail _ (.tail _ hq))
  clear lN W
  intro _ _ _ lF lN W
  k_steps
  (rename News _ _ _ _ => lN)
  refine wb_set (Pb wd) (by k_asm) (by k_asm) lN (W.more ?m) (Nat.le_of_ble_eq_true rfl) (by k_is) (Pb.put (by decide +kernel)) ?_
  case m => exact fun q hq => (by first | exact hq | exact .tail _ hq | exact .tail _ (.tail _ hq))
  clear lN W
  intro _ _ _ lF lN W
  k_steps
  (rename News _ _ _ _ => lN)
  refine wb_set (Pc wd) (by k_asm) (by k_asm) lN (W.more ?m) (Nat.le_of_ble_eq_true rfl) (by k_is) (Pb.pc (by decide +kernel) (by decide +kernel)) ?_
  case m => exact fun q hq => (by first | exact hq | exact .tail _ hq | exact .tail _ (.tail _ hq))
  clear lN W
  intro _ _ _ lF lN W
  k_steps
  (rename News _ _ _ _ => lN)
  refine wb_set (Pc wd) (by k_asm) (by k_asm) lN (W.more ?m) (Nat.le_of_ble_eq_true rfl) (by k_is) (Pc.put (by decide +kernel)) ?_
  case m => exact fun q hq => (by first | exact hq | exact .tail _ hq | exact .tail _ (.tail _ hq))
  clear lN W
  intro _ _ _ lF lN W
  k_steps
  (rename News _ _ _ _ => lN)
  refine wb_set (Pc wd) (by k_asm) (by k_asm) lN (W.more ?m) (Nat.le_of_ble_eq_true rfl) (by k_is) (Pc.put (by decide +kernel)) ?_
  case m => exact fun q hq => (by first | exact hq | exact .tail _ hq | exact .tail _ (.tail _ hq))
  clear lN W
  intro _ _ _ lF lN W
  k_steps
  (rename News _ _ _ _ => lN)
  refine wb_set (Pc wd) (by k_asm) (by k_asm) lN (W.more ?m) (Nat.le_of_ble_eq_true rfl) (by k_is) (Pc.put (by decide +kernel)) ?_
  case m => exact fun q hq => (by first | exact hq | exact .tail _ hq | exact .tail _ (.tail _ hq))
  clear lN W
  intro _ _ _ lF lN W
  k_steps
  (rename News _ _ _ _ => lN)
  refine wb_set (Pc wd) (by k_asm) (by k_asm) lN (W.more ?m) (Nat.le_of_ble_eq_true rfl) (by k_is) (Pc.put (by decide +kernel)) ?_
  case m => exact fun q hq => (by first | exact hq | exact .tail _ hq | exact .tail _ (.tail _ hq))
  clear lN W
  intro _ _ _ lF lN W
  k_steps
  (rename News _ _ _ _ => lN)
  refine wb_set (Pc wd) (by k_asm) (by k_asm) lN (W.more ?m) (Nat.le_of_ble_eq_true rfl) (by k_is) (Pc.put (by decide +kernel)) ?_
  case m => exact fun q hq => (by first | exact hq | exact .tail _ hq | exact .tail _ (.tail _ hq))
  clear lN W
  intro _ _ _ lF lN W
  k_steps
  (rename News _ _ _ _ => lN)
  refine wb_set (Pc wd) (by k_asm) (by k_asm) lN (W.more ?m) (Nat.le_of_ble_eq_true rfl) (by k_is) (Pc.put (by decide +kernel)) ?_
  case m => exact fun q hq => (by first | exact hq | exact .tail _ hq | exact .tail _ (.tail _ hq))
  clear lN W
  intro _ _ _ lF lN W
  k_steps
  (rename News _ _ _ _ => lN)
  refine wb_set (Pc wd) (by k_asm) (by k_asm) lN (W.more ?m) (Nat.le_of_ble_eq_true rfl) (by k_is) (Pc.put (by decide +kernel)) ?_
  case m => exact fun q hq => (by first | exact hq | exact .tail _ hq | exact .tail _ (.tail _ hq))
  clear lN W
  intro _ _ _ lF lN W
  k_steps
  (rename News _ _ _ _ => lN)
  refine wb_set (Pc wd) (by k_asm) (by k_asm) lN (W.more ?m) (Nat.le_of_ble_eq_true rfl) (by k_is) (Pc.put (by decide +kernel)) ?_
  case m => exact fun q hq => (by first | exact hq | exact .tail _ hq | exact .tail _ (.tail _ hq))
  clear lN W
  intro _ _ _ lF lN W
  k_steps
  (rename News _ _ _ _ => lN)
  refine wb_set (Pc wd) (by k_asm) (by k_asm) lN (W.more ?m) (Nat.le_of_ble_eq_true rfl) (by k_is) (Pc.put (by decide +kernel)) ?_
  case m => exact fun q hq => (by first | exact hq | exact .tail _ hq | exact .tail _ (.tail _ hq))
  clear lN W
  intro _ _ _ lF lN W
  k_steps
  (rename News _ _ _ _ => lN)
  refine wb_set (Pc wd) (by k_asm) (by k_asm) lN (W.more ?m) (Nat.le_of_ble_eq_true rfl) (by k_is) (Pc.put (by decide +kernel)) ?_
  case m => exact fun q hq => (by first | exact hq | exact .tail _ hq | exact .tail _ (.tail _ hq))
  clear lN W
  intro _ _ _ lF lN W
  k_steps
  (rename News _ _ _ _ => lN)
  refine wb_set (Pc wd) (by k_asm) (by k_asm) lN (W.more ?m) (Nat.le_of_ble_eq_true rfl) (by k_is) (Pc.put (by decide +kernel)) ?_
  case m => exact fun q hq => (by first | exact hq | exact .tail _ hq | exact .tail _ (.tail _ hq))
  clear lN W
  intro _ _ _ lF lN W
  k_steps
  (rename News _ _ _ _ => lN)
  refine wb_set (Pc wd) (by k_asm) (by k_asm) lN (W.more ?m) (Nat.le_of_ble_eq_true rfl) (by k_is) (Pc.put (by decide +kernel)) ?_
  case m => exact fun q hq => (by first | exact hq | exact .tail _ hq | exact .tail _ (.tail _ hq))
  clear lN W
  intro _ _ _ lF lN W
  k_steps
  (rename News _ _ _ _ => lN)
  refine wb_set (Pc wd) (by k_asm) (by k_asm) lN (W.more ?m) (Nat.le_of_ble_eq_true rfl) (by k_is) (Pc.put (by decide +kernel)) ?_
  case m => exact fun q hq => (by first | exact hq | exact .tail _ hq | exact .tail _ (.tail _ hq))
  clear lN W
  intro _ _ _ lF lN W
  k_steps
  (rename News _ _ _ _ => lN)
  refine wb_set (Pc wd) (by k_asm) (by k_asm) lN (W.more ?m) (Nat.le_of_ble_eq_true rfl) (by k_is) (Pc.put (by decide +kernel)) ?_
  case m => exact fun q hq => (by first | exact hq | exact .tail _ hq | exact .tail _ (.tail _ hq))
  clear lN W
  intro _ _ _ lF lN W
  k_steps
  (rename News _ _ _ _ => lN)
  refine wb_set (Pc wd) (by k_asm) (by k_asm) lN (W.more ?m) (Nat.le_of_ble_eq_true rfl) (by k_is) (Pc.put (by decide +kernel)) ?_
  case m => exact fun q hq => (by first | exact hq | exact .tail _ hq | exact .tail _ (.tail _ hq))
  clear lN W
  intro _ _ _ lF lN W
  k_steps
  obtain ⟨k1, k2⟩ := W.wrd (Nat.le_of_ble_eq_true rfl)
  exact hret _ _ _ _ (by with_reducible assumption) (by with_reducible assumption) k1 k2

end

section
section
variable {w w' : World} {A : Around} {E : Value → Shared → Prop} {s : Shared} {h₀ : Heap} {L : Addr} {m : Str → Option Value} {news : List (Addr × Obj)} {wv : Value} {wd ml : Int} {Q : Value → Shared → Prop} {expr : Bool}
theorem wrd_width (F : Fr h₀ L s.heap m) (X : (hd.heap_1 w'.params).In h₀) (N : News h₀ L s.heap news) (W : Wrd news wv wd ml) (h : ∀ t tk, Q (.int wd t) { s with toks := tk }) :
    wpAny (model PySem.Challenge.rw_np0298_01.row.prog w) A (getAttr wv "width" expr) Q E s := by
  obtain ⟨p, d, es, n, t1, t2, rfl, h1, h2, _, _, h5, h6, _⟩ := W
  revert X
  k_fill
  intro X
  refine' get_own F X (InstAt.of_news N h1 h2) ?a ?b ?c ?d h5 rfl (h _ _)
  case a => k_is
  case b => k_is
  case c => k_is
  case d => k_is
theorem wrd_length (F : Fr h₀ L s.heap m) (X : (hd.heap_1 w'.params).In h₀) (N : News h₀ L s.heap news) (W : Wrd news wv wd ml) (h : ∀ t tk, Q (.int ml t) { s with toks := tk }) :
    wpAny (model PySem.Challenge.rw_np0298_01.row.prog w) A (getAttr wv "most_length" expr) Q E s := by
  obtain ⟨p, d, es, n, t1, t2, rfl, h1, h2, _, _, h5, h6, _⟩ := W
  revert X
  k_fill
  intro X
  refine' get_own F X (InstAt.of_news N h1 h2) ?a ?b ?c ?d h6 rfl (h _ _)
  case a => k_is
  case b => k_is
  case c => k_is
  case d => k_is
end
theorem writeT_len {n : Int} (h : n.natAbs < 10 ^ 13) : (writeT n).length ≤ 100 := by
  have := decs_len 12 n.natAbs h
  unfold writeT
  split
  · show (45 :: decs n.natAbs).toArray.size ≤ 100
    simp
    omega
  · show (decs n.natAbs).toArray.size ≤ 100
    simp
    omega
theorem V.textP {v : V} (hp : v.plain = true) (hv : v.ok) : ∃ x, v.text = Option.some x ∧ x.length ≤ 100 := by
  cases v with
  | int n => exact ⟨_, rfl, writeT_len hv⟩
  | str x => exact ⟨_, rfl, hv.1⟩
  | _ => cases hp
theorem V.textNP {v : V} (hp : v.plain = false) : v.text = none := by cases v <;> first | rfl | (cases hp; done)
theorem c_totxP (w : World) (v : V) (val : Value) (hv : v.ok) (hp : v.plain = true) :
    Tells w 680 800 205 [val] (fun ns => Bears w ns v val) (fun ns r ns' => (∃ x t, v.text = some x ∧ x.length ≤ 100 ∧ r = .str x t) ∧ ns' = ns) := by
  unfold Tells
  intro cn sn sg sc sm a ccd cl outer A₀ base h₀ L m news s Q E mean mg mb B F X N T hpre hret
  refine c_totx w v val hv cn sn sg sc sm a ccd cl outer A₀ base h₀ L m news s Q E mean mg mb B F X N T hpre fun r ns' h' tk' F' N' hq => hret r ns' h' tk' F' N' ?_
  obtain ⟨x, hx, hl⟩ := V.textP hp hv
  obtain ⟨⟨t, e⟩, e2⟩ := hq
  exact ⟨⟨x, t, hx, hl, by rw [e, hx]; rfl⟩, e2⟩
/-- Failure() stands there -/
noncomputable def Fails (ns : List (Addr × Obj)) (r : Value) : Prop := ∃ x d, r = .ref x ∧ (x, instObj 47 d) ∈ ns ∧ (d, dictOf [] 0) ∈ ns

end
local macro_rules | `(tactic| walk_at "getAttr") => do
  let i ← inC true "tk7 tk8"
  sq (wordK "here") [← firstR [← atR "getAttr _ @width _" (← sq (← rfw "wrd_width" "FXNW?" "WwFaXaNa") [i]), ← atR "getAttr _ @most_length _" (← sq (← rfw "wrd_length" "FXNW?" "WwFaXaNa") [i])]]
local macro_rules | `(tactic| walk_at "call ref") => use9 205 "c_totxP" "___12" "Kw2w1s" false "tx t9 htx hlx e9|e8" "e9 e8" true

section
theorem c_convS (w : World) (v : V) (val wv : Value) (wd : Int) (tk : Tok) (h1 : 5 ≤ wd) (h2 : wd ≤ 40) (hv : v.ok) :
    Tells w 670 750 290 [wv, val, .str (Str.ofString "STRING") tk] (fun ns => Bears w ns v val ∧ Wrd ns wv wd 5000)
      (fun ns r ns' => ns' = ns ∧ ((∃ x t, v.text = some x ∧ r = .str x t) ∨ (v.text = none ∧ ∃ t, r = .str (Str.ofString v.kind) t))) := by
  unfold Tells
  k_fill
  intro cn sn sg sc sm a ccd cl outer A₀ base h₀ L m news s Q E mean mg mb B F X N T hpre hret
  obtain ⟨hb, hW⟩ := hpre
  k_steps
  all_goals first
    | exact hret _ _ _ _ (by with_reducible assumption) (by with_reducible assumption) ⟨rfl, .inl ⟨_, _, htx, rfl⟩⟩
    | exact hret _ _ _ _ (by with_reducible assumption) (by with_reducible assumption) ⟨rfl, .inr ⟨V.textNP (by with_reducible assumption), _, rfl⟩⟩
    | (obtain ⟨n, rfl⟩ := V.toStr (by with_reducible assumption)
       obtain ⟨t, rfl⟩ := hb
       exact hret _ _ _ _ (by with_reducible assumption) (by with_reducible assumption) ⟨rfl, .inl ⟨_, _, rfl, rfl⟩⟩)

end

section
theorem c_convI (w : World) (v : V) (val wv : Value) (wd : Int) (tk : Tok) (h1 : 5 ≤ wd) (h2 : wd ≤ 40) (hv : v.ok) :
    Tells w 670 750 290 [wv, val, .str (Str.ofString "INTEGER") tk] (fun ns => Bears w ns v val ∧ Wrd ns wv wd 5000)
      (fun ns r ns' => (∀ p ∈ ns, p ∈ ns') ∧ ((∃ n t, v.whole wd = some n ∧ r = .int n t) ∨ (v.whole wd = none ∧ Fails ns' r))) := by
  unfold Tells
  k_fill
  intro cn sn sg sc sm a ccd cl outer A₀ base h₀ L m news s Q E mean mg mb B F X N T hpre hret
  obtain ⟨hb, hW⟩ := hpre
  k_steps
  · obtain ⟨n, rfl⟩ := V.toInt (by with_reducible assumption)
    obtain ⟨t, rfl⟩ := hb
    exact hret _ _ _ _ (by with_reducible assumption) (by with_reducible assumption) ⟨fun p hp => hp, .inl ⟨_, _, rfl, rfl⟩⟩
  · refine cmp_optV (fun n hw => ?_) (fun hw => ?_)
    · k_steps
      exact hret _ _ _ _ (by with_reducible assumption) (by with_reducible assumption) ⟨fun p hp => hp, .inl ⟨n, _, hw, by rw [hw]; rfl⟩⟩
    · k_steps
      exact hret _ _ _ _ (by with_reducible assumption) (by with_reducible assumption) ⟨fun p hp => .tail _ (.tail _ hp), .inr ⟨hw, _, _, rfl, .head _, .tail _ (.head _)⟩⟩

end

section
theorem c_convK (w : World) (v : V) (val wv : Value) (tk : Tok) :
    Tells w 670 750 290 [wv, val, .str (Str.ofString v.kind) tk] (fun ns => Bears w ns v val) (fun ns r ns' => r = val ∧ ns' = ns) := by
  unfold Tells
  k_fill
  intro cn sn sg sc sm a ccd cl outer A₀ base h₀ L m news s Q E mean mg mb B F X N T hb hret
  k_steps
  exact hret _ _ _ _ (by with_reducible assumption) (by with_reducible assumption) ⟨rfl, rfl⟩
theorem c_convA (w : World) (v : V) (val wv : Value) (tk : Tok) :
    Tells w 670 750 290 [wv, val, .str (Str.ofString "ARRAY") tk] (fun ns => Bears w ns v val) (fun ns r ns' => r = .none ∧ ns' = ns) := by
  unfold Tells
  k_fill
  intro cn sn sg sc sm a ccd cl outer A₀ base h₀ L m news s Q E mean mg mb B F X N T hb hret
  k_steps
  exact hret _ _ _ _ (by with_reducible assumption) (by with_reducible assumption) ⟨rfl, rfl⟩

end

section
/-- Pattern((tag, x)) stands there -/
noncomputable def PatOf (w : World) (ns : List (Addr × Obj)) (r : Value) (tag : String) (x : Value) : Prop :=
  ∃ p d tp t1 t2 c, r = .ref p ∧ (p, instObj 68 d) ∈ ns ∧ (d, dictOf [ent w "node" t1 (.ref tp)] 1) ∈ ns ∧ (tp, tupO [.str (Str.ofString tag) t2, x] c) ∈ ns
noncomputable def PatPost (w : World) (ns : List (Addr × Obj)) (val r : Value) : V → Prop
  | .pat _ => r = val
  | .dly _ => ∃ p0 d0 t0 tp, val = .ref p0 ∧ (p0, instObj 89 d0) ∈ ns ∧ (d0, dictOf [ent w "tree" t0 (.ref tp)] 1) ∈ ns ∧ PatOf w ns r "delay" (.ref tp)
  | .int n => ∃ t, PatOf w ns r "chars" (.str (writeT n) t)
  | .str x => ∃ t, PatOf w ns r "chars" (.str x t)
  | _ => Fails ns r
theorem PatPost.txt {w : World} {ns : List (Addr × Obj)} {val r : Value} {v : V} {x : Str} {t : Tok} (hp : v.plain = true) (hx : v.text = some x) (h : PatOf w ns r "chars" (.str x t)) : PatPost w ns val r v := by
  cases v <;> first | (cases hp; done) | (cases hx; exact ⟨_, h⟩)
theorem PatPost.no {w : World} {ns : List (Addr × Obj)} {val r : Value} {v : V} (hp : v.plain = false) (h1 : V.isC 68 v = false) (h2 : V.isC 89 v = false) (h : Fails ns r) : PatPost w ns val r v := by
  cases v <;> first | exact h | (cases hp; done) | (cases h1; done) | (cases h2; done)
theorem c_convP (w : World) (v : V) (val wv : Value) (tk : Tok) (hv : v.ok) :
    Tells w 670 750 290 [wv, val, .str (Str.ofString "PATTERN") tk] (fun ns => Bears w ns v val)
      (fun ns r ns' => (∀ p ∈ ns, p ∈ ns') ∧ PatPost w ns' val r v) := by
  unfold Tells
  k_fill
  intro cn sn sg sc sm a ccd cl outer A₀ base h₀ L m news s Q E mean mg mb B F X N T hb hret
  k_steps
  · obtain ⟨n, rfl⟩ := V.toPat (by with_reducible assumption)
    exact hret _ _ _ _ (by with_reducible assumption) (by with_reducible assumption) ⟨fun p hp => hp, rfl⟩
  · obtain ⟨n, rfl⟩ := V.toDly (by with_reducible assumption)
    obtain ⟨p, d, tp, t1, t2, t3, c, rfl, hp, hd, ht⟩ := hb
    k_steps
    exact hret _ _ _ _ (by with_reducible assumption) (by with_reducible assumption) ⟨fun p hp => .tail _ (.tail _ (.tail _ hp)), p, d, _, tp, rfl, .tail _ (.tail _ (.tail _ hp)), .tail _ (.tail _ (.tail _ hd)), _, _, _, _, _, _, rfl, .head _, .tail _ (.head _), .tail _ (.tail _ (.head _))⟩
  · exact hret _ _ _ _ (by with_reducible assumption) (by with_reducible assumption) ⟨fun p hp => .tail _ (.tail _ (.tail _ hp)), PatPost.txt (by with_reducible assumption) htx ⟨_, _, _, _, _, _, rfl, .head _, .tail _ (.head _), .tail _ (.tail _ (.head _))⟩⟩
  · exact hret _ _ _ _ (by with_reducible assumption) (by with_reducible assumption) ⟨fun p hp => .tail _ (.tail _ hp), PatPost.no (by with_reducible assumption) (by with_reducible assumption) (by with_reducible assumption) ⟨_, _, rfl, .head _, .tail _ (.head _)⟩⟩

end

section
noncomputable def NamPost (w : World) (ns : List (Addr × Obj)) (val r : Value) : V → Prop
  | .name _ => r = val
  | .int n => Bears w ns (.name (writeT n)) r
  | .str x => if x = Str.ofString "" then Fails ns r else Bears w ns (.name x) r
  | _ => Fails ns r
theorem writeT_ne (n : Int) : writeT n ≠ Str.ofString "" := by
  intro h
  have e : (Str.ofString "").length = 0 := by decide +kernel
  have l : (writeT n).length = 0 := by rw [h]; exact e
  have := decs_pos n.natAbs
  unfold writeT at l
  split at l
  · have : (45 :: decs n.natAbs).toArray.size = 0 := l
    simp at this
  · have z : (decs n.natAbs).toArray.size = 0 := l
    rw [List.size_toArray] at z
    omega
theorem NamPost.txt {w : World} {ns : List (Addr × Obj)} {val r : Value} {v : V} {x y : Str} (hne : (x != Str.ofString "") = true) (hp : v.plain = true) (hx : v.text = some x) (hy : v.text = some y) (h : Bears w ns (.name y) r) : NamPost w ns val r v := by
  cases v <;> first | (cases hp; done) | (cases hy; exact h) | (cases hx; cases hy; dsimp only [NamPost]; rw [if_neg (by simpa using hne)]; exact h)
theorem NamPost.nil {w : World} {ns : List (Addr × Obj)} {val r : Value} {v : V} {x : Str} (hne : (x != Str.ofString "") = false) (hp : v.plain = true) (hx : v.text = some x) (h : Fails ns r) : NamPost w ns val r v := by
  have e : x = Str.ofString "" := by simpa using hne
  cases v with
  | int n => cases hx; exact absurd e (writeT_ne n)
  | str y => cases hx; dsimp only [NamPost]; rw [if_pos e]; exact h
  | _ => cases hp
theorem NamPost.no {w : World} {ns : List (Addr × Obj)} {val r : Value} {v : V} (hp : v.plain = false) (h1 : V.isC 131 v = false) (h : Fails ns r) : NamPost w ns val r v := by
  cases v <;> first | exact h | (cases hp; done) | (cases h1; done)
theorem c_convN (w : World) (v : V) (val wv : Value) (tk : Tok) (hv : v.ok) :
    Tells w 670 750 290 [wv, val, .str (Str.ofString "NAME") tk] (fun ns => Bears w ns v val)
      (fun ns r ns' => (∀ p ∈ ns, p ∈ ns') ∧ NamPost w ns' val r v) := by
  unfold Tells
  k_fill
  intro cn sn sg sc sm a ccd cl outer A₀ base h₀ L m news s Q E mean mg mb B F X N T hb hret
  k_steps
  · obtain ⟨n, rfl⟩ := V.toName (by with_reducible assumption)
    exact hret _ _ _ _ (by with_reducible assumption) (by with_reducible assumption) ⟨fun p hp => hp, rfl⟩
  · exact hret _ _ _ _ (by with_reducible assumption) (by with_reducible assumption) ⟨fun p hp => .tail _ (.tail _ hp), NamPost.txt (by with_reducible assumption) (by with_reducible assumption) (by with_reducible assumption) htx ⟨_, _, _, _, _, _, _, rfl, .head _, .tail _ (.head _)⟩⟩
  · exact hret _ _ _ _ (by with_reducible assumption) (by with_reducible assumption) ⟨fun p hp => .tail _ (.tail _ hp), NamPost.nil (by with_reducible assumption) (by with_reducible assumption) htx ⟨_, _, rfl, .head _, .tail _ (.head _)⟩⟩
  · exact hret _ _ _ _ (by with_reducible assumption) (by with_reducible assumption) ⟨fun p hp => .tail _ (.tail _ hp), NamPost.no (by with_reducible assumption) (by with_reducible assumption) ⟨_, _, rfl, .head _, .tail _ (.head _)⟩⟩

end

section
theorem fmod_range {a b : Int} (h : 0 < b) : 0 ≤ a.fmod b ∧ a.fmod b < b := by
  rw [Int.fmod_eq_emod_of_nonneg _ (by omega)]
  exact ⟨Int.emod_nonneg _ (by omega), Int.emod_lt_of_pos _ h⟩
/-- the law's box: its list, its cells (whole numbers), its place and its letter -/
inductive BoxAt (B : Int) (ns : List (Addr × Obj)) (bv : Value) (bl cl : Addr) : Prop
  | mk (i h : Int) (t1 t2 : Tok) (n : Nat) (vs : Array Value) (xs : List Int) (m : Nat) (e : bv = .ref bl) (h1 : (bl, W.listOf #[.int i t1, .ref cl, .int h t2] n) ∈ ns) (h2 : (cl, W.listOf vs m) ∈ ns)
    (r : cl ≠ bl ∧ IntsAre vs.toList xs ∧ vs.size ≤ 40 ∧ -1 ≤ i ∧ i ≤ B ∧ 0 ≤ h ∧ h < 2147483647) : BoxAt B ns bv bl cl
theorem BoxAt.more {B : Int} {ns ns' : List (Addr × Obj)} {bv : Value} {bl cl : Addr} (k : ∀ p ∈ ns, p ∈ ns') (W : BoxAt B ns bv bl cl) : BoxAt B ns' bv bl cl := by
  obtain ⟨i, h, t1, t2, n, vs, xs, m, e, h1, h2, r⟩ := W
  exact ⟨i, h, t1, t2, n, vs, xs, m, e, k _ h1, k _ h2, r⟩
theorem BoxAt.keep {B : Int} {h₀ h : Heap} {L P : Addr} {oP : Obj} {ns ns' : List (Addr × Obj)} {bv : Value} {bl cl : Addr} (N : News h₀ L h ns) (hP : (P, oP) ∈ ns) (hc : oP.cls = .none) (k : ∀ p ∈ ns, p.1 ≠ P → p ∈ ns') (W : BoxAt B ns bv bl cl) : BoxAt B ns' bv bl cl := by
  obtain ⟨i, h, t1, t2, n, vs, xs, m, e, h1, h2, r⟩ := W
  exact ⟨i, h, t1, t2, n, vs, xs, m, e, k _ h1 (ne_of_obj N h1 hP (by rw [hc]; simp)), k _ h2 (ne_of_obj N h2 hP (by rw [hc]; simp)), r⟩
theorem BoxAt.ne {B : Int} {h₀ h : Heap} {L a : Addr} {o : Obj} {ns : List (Addr × Obj)} {bv : Value} {bl cl : Addr} (W : BoxAt B ns bv bl cl) (N : News h₀ L h ns) (hm : (a, o) ∈ ns) (hc : o.cls ≠ .type "list") : a ≠ bl := by
  obtain ⟨i, h, t1, t2, n, vs, xs, m, e, h1, _⟩ := W
  exact ne_of_obj N hm h1 hc
theorem BoxAt.up {B B' : Int} {ns : List (Addr × Obj)} {bv : Value} {bl cl : Addr} (hB : B ≤ B') (W : BoxAt B ns bv bl cl) : BoxAt B' ns bv bl cl := by
  obtain ⟨i, h, t1, t2, n, vs, xs, m, e, h1, h2, h3, h4, h5, h6, h7, r⟩ := W
  exact ⟨i, h, t1, t2, n, vs, xs, m, e, h1, h2, h3, h4, h5, h6, Int.le_trans h7 hB, r⟩
/-- what the box leans on: two addresses -/
theorem BoxAt.mem {B : Int} {ns : List (Addr × Obj)} {bv : Value} {bl cl : Addr} (W : BoxAt B ns bv bl cl) : bv = .ref bl ∧ (∃ o, (bl, o) ∈ ns ∧ o.cls = .type "list") ∧ ∃ o, (cl, o) ∈ ns ∧ o.cls = .type "list" := by
  obtain ⟨i, h, t1, t2, n, vs, xs, m, e, h1, h2, _⟩ := W
  exact ⟨e, ⟨_, h1, rfl⟩, ⟨_, h2, rfl⟩⟩
theorem BoxAt.sub {B : Int} {ns ns' : List (Addr × Obj)} {bv : Value} {bl cl : Addr} (k : ∀ p ∈ ns, (p.1 = bl ∨ p.1 = cl) → p ∈ ns') (W : BoxAt B ns bv bl cl) : BoxAt B ns' bv bl cl := by
  obtain ⟨i, h, t1, t2, n, vs, xs, m, e, h1, h2, r⟩ := W
  exact ⟨i, h, t1, t2, n, vs, xs, m, e, k _ h1 (.inl rfl), k _ h2 (.inr rfl), r⟩
theorem item_ints {prog : Program} {w : World} {A : Around} {E : Value → Shared → Prop} {s : Shared} {h₀ : Heap} {L l : Addr} {news : List (Addr × Obj)} {value slice : PySem.Expr} {vs : Array Value} {xs : List Int} {k : Int} {u : Tok} {m : Nat} {Q : Value → Shared → Prop}
    (N : News h₀ L s.heap news) (hm : (l, W.listOf vs m) ∈ news) (hI : IntsAre vs.toList xs) (h0 : 0 ≤ k) (hk : k < (vs.size : Int)) (hz : vs.size ≤ 40) (h : ∀ x t, Q (.int x t) s)
    (hs : subscripted slice false (.ref l) (.int k u) = operate [.ref l, .int k u] (getItem (.ref l) (.int k u)) := by with_unfolding_all rfl) :
    wpAny (model prog w) A (subscriptTail value slice (.ref l) (.int k u)) Q E s := by
  have hlt : k.toNat < vs.size := by omega
  have e : vs[k.toNat]? = some vs[k.toNat] := Array.getElem?_eq_getElem hlt
  obtain ⟨x, t, hv, -⟩ := hI.at k.toNat vs[k.toNat] (by rw [Array.getElem?_toList]; exact e)
  have hl := N.isList hm
  exact tail_any hl.typeIs slot_list_getitem.lookup (wpAny_getItem_list hl h0 (by omega) e (by rw [hv]; exact h x t)) hs
theorem intsP {xs : List Int} : ∀ {vs ys : List Value}, IntsAre vs xs → Paired (fun v y => ∀ n t, v = Value.int n t → ∃ u, y = Value.int n u) vs ys → IntsAre ys xs := by
  induction xs with
  | nil =>
    intro vs ys h p
    obtain rfl := h.nil_inv
    cases p
    exact .nil
  | cons n r ih =>
    intro vs ys h p
    obtain ⟨t, vs', rfl, h'⟩ := h.cons_inv
    cases p with
    | cons q p' =>
      obtain ⟨u, rfl⟩ := q n t rfl
      exact .cons _ _ (ih h' p')
section
variable {prog : Program} {w : World} {A : Around} {E : Value → Shared → Prop} {s : Shared} {env : Env} {scope : Scope} {x : Str} {elt : PySem.Expr}
theorem compIN {Q : Value → Shared → Prop} {h₀ : Heap} {L : Addr} {m : Str → Option Value} {news : List (Addr × Obj)} {D0 : Addr} {vs : Array Value} {c : Nat} {xs : List Int} (hh : A.handled = none) (F : Fr h₀ L s.heap m) (N : News h₀ L s.heap news) (hm : (D0, W.listOf vs c) ∈ news) (hI : IntsAre vs.toList xs) (hsz : vs.size ≤ sizeLine)
    (helt : ∀ C (n : Int) t s₃ m₃ E', s₃.heap.Ns C m₃ → m₃ x = some (.int n t) → Fr h₀ L s₃.heap m → wpAny (model prog w) A (eval elt (compEnv scope C env)) (fun y s₄ => (∃ u, y = .int n u) ∧ Keeps s₃ s₄) E' s₃)
    (k : ∀ D h' tk (ys : Array Value) c', Fr h₀ L h' m → News h₀ L h' ((D, W.listOf ys c') :: news) → IntsAre ys.toList xs → ys.size = vs.size → Q (.ref D) { s with heap := h', toks := tk }) :
    wpAny (model prog w) A (pyIter (.ref D0)) (CompPost prog w A env scope x [] elt Q) E s := by
  have hl := N.isList hm
  have hne : D0 ≠ s.heap.objs.size := Nat.ne_of_lt (Heap.lt_size (N _ hm).1)
  refine wpAny_pyIter_list hl ?_
  refine ⟨fun _ => true, fun v y => ∀ n t, v = Value.int n t → ∃ u, y = Value.int n u, s.heap.objs.size, [s.heap.objs.size, D0], [s.heap.objs.size], vs.size, _, _, rfl, Walks.list hh _ D0 hne vs, hsz, ⟨⟨_, Heap.get?_push_size _ rfl, rfl, rfl⟩, ?_⟩, ?_, ⟨?_, ?_⟩, ?_⟩
  · obtain ⟨o, ho, r⟩ := hl
    exact ⟨o, Heap.get?_push_of_some _ ho, r⟩
  · intro b hb
    rw [Heap.size_push]
    rcases List.mem_cons.mp hb with rfl | hb
    · exact Nat.lt_succ_self _
    · rw [List.mem_singleton.mp hb]
      exact Nat.lt_succ_of_lt (Heap.lt_size (N _ hm).1)
  · intro C i v s₃ m₃ E' _ hn hx hk _
    rw [List.forIn_nil]
    exact wpAny_pure ⟨rfl, keeps_refl⟩
  · intro C i v s₃ m₃ E' hv _ hn hx hk _
    obtain ⟨n, t, rfl, -⟩ := hI.at i v (by rw [Array.getElem?_toList]; exact hv)
    have F₃ : Fr h₀ L s₃.heap m := by
      have kp : ∀ b o, s.heap.get? b = some o → s₃.heap.get? b = some o := fun b o e => hk b o (by
        intro hb
        rw [List.mem_singleton.mp hb] at e
        exact absurd (Heap.lt_size e) (Nat.lt_irrefl _)) (Heap.get?_push_of_some _ e)
      exact F.keeps kp
    refine wpAny_mono (helt C n t s₃ m₃ E' hn hx F₃) (fun y s₄ q => ⟨?_, q.2⟩) fun _ _ e => e
    intro n' t' e
    injection e with e1 e2
    rw [← e1]
    exact q.1
  · intro D h' tk ys vs' hD hl' hpl hlen hP hF hk
    have e : vs' = vs.toList := by
      refine List.ext_getElem (by rw [hlen, Array.length_toList]) fun j h1 h2 => ?_
      have := hP j _ (List.getElem?_eq_getElem h1)
      rw [← Array.getElem?_toList, List.getElem?_eq_getElem h2] at this
      exact (Option.some.inj this).symm
    subst e
    rw [List.filter_eq_self.mpr (fun _ _ => rfl)] at hF
    have hD' : s.heap.get? D = none := by
      cases q : s.heap.get? D with
      | none => rfl
      | some o' => have := Heap.get?_push_of_some ({ cls := .type "list_iterator", data := .fields #[.ref D0, .int 0 0] } : Obj) q; rw [hD] at this; cases this
    have kp : ∀ b o, s.heap.get? b = some o → h'.get? b = some o := fun b o e => hk b o (by
      intro hb
      rw [List.mem_singleton.mp hb] at e
      exact absurd (Heap.lt_size e) (Nat.lt_irrefl _)) (Heap.get?_push_of_some _ e)
    obtain ⟨nD, hoD⟩ := hpl
    have F' := F.keeps kp
    refine k D h' tk ys nD F' (News.more F' (News.keeps N kp) hoD (fun es n q => by cases q) (fresh_base F hD')) (intsP hI hF) ?_
    have := hF.length
    rw [Array.length_toList, Array.length_toList] at this
    exact this.symm
end

section
variable {M : Model} {A : Around} {E : Value → Shared → Prop} {s : Shared} {K : Frag} {h₀ : Heap} {L C : Addr} {m mg mb : Str → Option Value} {scope : Scope} {env : Env} {p : Program} {loose : List Str} {mean : ExcName → Option Value} {x : Str} {pos : Pos} {v : Value} {Q : Value → Shared → Prop}
theorem nameC_B (F : Fr h₀ L s.heap m) (X : K.In h₀) (T : Top p loose mean mg mb h₀) (e : nsIn K mainGlobals x = some none) (hv : bootBuiltins x = some v) (hn : x ≠ "__name__") (h : Q v s) (hg : env.globals = mainGlobals) (hb : env.builtins = builtinsNs)
    (hk : (compEnv scope C env).scope.kind = .function) (hx : (compEnv scope C env).kindOf x = some .globalImplicit) (hd : (x == ("__debug__" : Str)) = false := by decide) :
    wpAny M A (eval (.Name x pos) (compEnv scope C env)) Q E s :=
  Name_function_global hk hx (loadGlobal_builtin (env := compEnv scope C env) (show s.heap.Ns env.globals mg from hg ▸ (T.keeps F.keep).g) (mg_none_of X T.g e) (show s.heap.Ns env.builtins mb from hb ▸ (T.keeps F.keep).b) ((T.builtins x hn).trans hv) h) hd
theorem nameC_K (F : Fr h₀ L s.heap m) (X : K.In h₀) (T : Top p loose mean mg mb h₀) (e : nsIn K mainGlobals x = some (some v)) (h : Q v s) (hg : env.globals = mainGlobals)
    (hk : (compEnv scope C env).scope.kind = .function) (hx : (compEnv scope C env).kindOf x = some .globalImplicit) (hd : (x == ("__debug__" : Str)) = false := by decide) :
    wpAny M A (eval (.Name x pos) (compEnv scope C env)) Q E s :=
  Name_function_global hk hx (loadGlobal_global (env := compEnv scope C env) (show s.heap.Ns env.globals mg from hg ▸ (T.keeps F.keep).g) (mg_of X T.g e) h) hd
end
section
variable {prog : Program} {w : World} {A : Around} {E : Value → Shared → Prop} {s : Shared} {env : Env} {h₀ : Heap} {x : Str} {body : List Stmt} {Q : Flow → Shared → Prop}
noncomputable def TurnB (h₀ : Heap) (L : Addr) (m₀ : Str → Option Value) (bl : Addr) (own : List (Addr × Obj)) (x : Str) (R : Obj → Prop) (s : Shared) (Q : Flow → Shared → Prop) (f : Flow) (s₂ : Shared) : Prop :=
  match f with
  | .ret v => Q (.ret v) s₂
  | .brk => Q .next s₂
  | _ => ∃ h' tk u o', s₂ = { s with heap := h', toks := tk } ∧ Fr h₀ L h' (fun y => if y = x then u else m₀ y) ∧ News h₀ L h' ((bl, o') :: own) ∧ R o'
/-- a for over a made list of whole numbers whose turns change one other object -/
theorem iterB {D bl : Addr} {vs : Array Value} {c : Nat} {xs : List Int} {m₀ : Str → Option Value} {rest : List (Addr × Obj)} {o₀ : Obj} (R : Obj → Prop)
    (hh : A.handled = none) (F : Fr h₀ env.locals s.heap m₀) (N : News h₀ env.locals s.heap ((bl, o₀) :: (D, W.listOf vs c) :: rest)) (hD : D ≠ bl) (hr : ∀ p ∈ rest, p.1 ≠ bl) (hI : IntsAre vs.toList xs) (h0 : R o₀)
    (turn : ∀ n t o h tk own, R o → (∀ p ∈ own, p.1 ≠ bl) → Fr h₀ env.locals h (fun y => if y = x then some (.int n t) else m₀ y) → News h₀ env.locals h ((bl, o) :: own) →
      wpAny (model prog w) A (execs body env) (TurnB h₀ env.locals m₀ bl own x R s Q) E { s with heap := h, toks := tk })
    (done : ∀ o h tk u, R o → Fr h₀ env.locals h (fun y => if y = x then u else m₀ y) → News h₀ env.locals h ((bl, o) :: (D, W.listOf vs c) :: rest) → Q .next { s with heap := h, toks := tk }) :
    wpAny (model prog w) A (pyIter (.ref D)) (fun it s₂ => LoopAtV prog w A h₀ env x body Q E it s₂) E s := by
  have hm : (D, W.listOf vs c) ∈ (bl, o₀) :: (D, W.listOf vs c) :: rest := .tail _ (.head _)
  have hl := N.isList hm
  have hne : D ≠ s.heap.objs.size := Nat.ne_of_lt (Heap.lt_size (N _ hm).1)
  have hbI : s.heap.objs.size ≠ bl := Nat.ne_of_gt (Heap.lt_size (N _ (.head _)).1)
  refine wpAny_pyIter_list hl ?_
  have hst : (s.heap.push { cls := .type "list_iterator", data := .fields #[.ref D, .int 0 0] }).IsList D vs := by
    obtain ⟨o, ho, r⟩ := hl
    exact ⟨o, Heap.get?_push_of_some _ ho, r⟩
  refine loopJ (fp := [s.heap.objs.size, D]) (wr := [s.heap.objs.size]) (news := (bl, o₀) :: (D, W.listOf vs c) :: rest) (m₀ := m₀) (fun _ m nx => (∃ o, nx = (bl, o) :: (D, W.listOf vs c) :: rest ∧ R o) ∧ ∃ u, m = fun y => if y = x then u else m₀ y) (Walks.list hh _ D hne vs) ?_ ?_ ?_ ⟨⟨_, Heap.get?_push_size _ rfl, rfl, rfl⟩, hst⟩ (F.push _) (fun p hp => ⟨Heap.get?_push_of_some _ (N p hp).1, (N p hp).2⟩) ⟨⟨o₀, rfl, h0⟩, m₀ x, ?_⟩ ?_ ?_
  · intro hb
    rcases List.mem_cons.mp hb with e | hb
    · exact absurd F.ns.lt (e ▸ Nat.lt_irrefl _)
    · exact (N _ hm).2.1 (List.mem_singleton.mp hb).symm
  · intro b hb
    rw [List.mem_singleton.mp hb]
    exact next_is_new F
  · intro p hp hI'
    exact absurd (Heap.lt_size (N p hp).1) ((List.mem_singleton.mp hI') ▸ Nat.lt_irrefl _)
  · funext y
    by_cases hy : y = x
    · simp [hy]
    · simp [hy]
  · rintro i v m₁ nx h tk own hi hv hn hown _ ⟨⟨o, rfl, hR⟩, u, rfl⟩ F₁ N₁
    obtain ⟨n, t, rfl, -⟩ := hI.at i v (by rw [Array.getElem?_toList]; exact hv)
    have em : (fun y => if y = x then some (Value.int n t) else if y = x then u else m₀ y) = fun y => if y = x then some (Value.int n t) else m₀ y := by
      funext y
      by_cases hy : y = x <;> simp [hy]
    rw [em] at F₁
    have hob : ∀ p ∈ (D, W.listOf vs c) :: (rest ++ own), p.1 ≠ bl := by
      intro p hp
      rcases List.mem_cons.mp hp with rfl | hp
      · exact hD
      · rcases List.mem_append.mp hp with hp | hp
        · exact hr p hp
        · have := hown p hp
          rcases List.mem_cons.mp this with e | e
          · rw [e]; exact hbI
          · rw [List.mem_singleton.mp e]; exact hD
    refine wpAny_mono (turn n t o h tk _ hR hob F₁ N₁) (fun f s₂ p => ?_) fun _ _ e => e
    cases f with
    | ret v => exact p
    | brk => exact p
    | next =>
      obtain ⟨h', tk', u', o', e, F', N', hR'⟩ := p
      exact ⟨h', tk', _, (bl, o') :: (D, W.listOf vs c) :: rest, e, F', N', (fun q hq => by
        rcases List.mem_cons.mp hq with rfl | hq
        · exact fun z => hbI (List.mem_singleton.mp z).symm
        · exact hn q (.tail _ hq)), ⟨o', rfl, hR'⟩, u', rfl⟩
    | cont =>
      obtain ⟨h', tk', u', o', e, F', N', hR'⟩ := p
      exact ⟨h', tk', _, (bl, o') :: (D, W.listOf vs c) :: rest, e, F', N', (fun q hq => by
        rcases List.mem_cons.mp hq with rfl | hq
        · exact fun z => hbI (List.mem_singleton.mp z).symm
        · exact hn q (.tail _ hq)), ⟨o', rfl, hR'⟩, u', rfl⟩
  · rintro m₁ nx h tk _ ⟨⟨o, rfl, hR⟩, u, rfl⟩ F₁ N₁
    exact done o h tk u hR F₁ N₁
end

end
local macro_rules | `(tactic| k_all) => `(tactic| first | exact List.forall_mem_nil _ | with_reducible assumption | (refine' List.forall_mem_cons.mpr ⟨?a, ?b⟩; (case a => first | with_reducible assumption | k_ne); (case b => k_all)))
local macro_rules | `(tactic| walk_at "subscriptTail") => do
  let i ← idq true "lF'"
  sq (wordK "here") [← showR (← runT "subscriptTail _ _ Value.ref:1 Value.int:2"), ← `(tactic| rename IntsAre (Array.toList _) _ => $i:ident), ← rf "item_ints" "Nm$hkz?s" "NamMhokqzwsu", ← inC false "x9 t9"]
local macro_rules | `(tactic| walk_at "eval Name") => do `(tactic| (k_here; (with_reducible show wpAny _ _ (eval (Expr.Name _ _) (compEnv _ _ _)) _ _ _); k_dflt (first
  | $(← rfw "nameC_B" "FXTevn?gbhx" "FaXaTaeivfndgrbrhrxr"):tactic
  | $(← rfw "nameC_K" "FXTe?ghx" "FaXaTaeigrhrxr"):tactic)))

section
theorem c_draw (w : World) (bv : Value) (bl cl0 : Addr) (B k : Int) (tk : Tok) (hB : B ≤ 1000000) (hk : 1 ≤ k) (hk2 : k ≤ 100) :
    Tells w 650 700 358 [bv, .int k tk] (fun ns => BoxAt B ns bv bl cl0)
      (fun ns r ns' => (∃ n t, r = .int n t ∧ 0 ≤ n ∧ n < k) ∧ BoxAt (B + 1) ns' bv bl cl0 ∧ ∀ p ∈ ns, p.1 ≠ bl → p ∈ ns') := by
  unfold Tells
  k_fill
  intro cn sn sg sc sm a ccd cl outer A₀ base h₀ L m news s Q E mean mg mb B1 F X N T hpre hret
  refine hideG fun H9 hG9 => ?_
  obtain ⟨i, h, t1, t2, n, vs, xs, mm, rfl, hm1, hm2, hne, hI, hsz, hi1, hi2, hh1, hh2⟩ := hpre
  refine hG9 ?_
  clear hG9 H9
  have N0 : News h₀ L s.heap ((bl, W.listOf #[.int i t1, .ref cl0, .int h t2] n) :: (cl0, W.listOf vs mm) :: except bl news) := nsub N fun q hq => by
    rcases List.mem_cons.mp hq with rfl | hq
    · exact hm1
    · rcases List.mem_cons.mp hq with rfl | hq
      · exact hm2
      · exact (mem_except.mp hq).1
  have hx : ∀ p ∈ except bl news, p.1 ≠ bl := fun p hp => (mem_except.mp hp).2
  have hkp : ∀ p ∈ news, p.1 ≠ bl → p ∈ except bl news := fun p hp hn => mem_except.mpr ⟨hp, hn⟩
  clear hm1 hm2
  generalize except bl news = ns0 at *
  k_steps
  · exact hret _ _ _ _ (by with_reducible assumption) (by with_reducible assumption) ⟨⟨_, _, rfl, (fmod_range (by omega)).1, (fmod_range (by omega)).2⟩, ⟨_, _, _, _, _, vs, xs, mm, rfl, .head _, .tail _ (.head _), hne, (by with_reducible assumption), hsz, by omega, by omega, hh1, hh2⟩, fun p hp hn => .tail _ (.tail _ (hkp p hp hn))⟩
  · exact hret _ _ _ _ (by with_reducible assumption) (by with_reducible assumption) ⟨⟨_, _, rfl, (fmod_range (by omega)).1, (fmod_range (by omega)).2⟩, ⟨_, _, _, _, _, vs, xs, mm, rfl, .head _, .tail _ (.head _), hne, (by with_reducible assumption), hsz, by omega, by omega, (fmod_range (by decide)).1, (fmod_range (by decide)).2⟩, fun p hp hn => .tail _ (.tail _ (hkp p hp hn))⟩

end

section
theorem allLt_ne {d : Addr} : ∀ {l : List (Addr × Obj)}, AllLt d l → ∀ p ∈ l, p.1 ≠ d
  | [], _, _, hp => nomatch hp
  | _ :: _, h, p, hp => by
    rcases List.mem_cons.mp hp with rfl | hp
    · exact Nat.ne_of_lt h.1
    · exact allLt_ne h.2 p hp
theorem c_box (w : World) (sl : Addr) (svs : List Value) (sxs : List Int) (hI : IntsAre svs sxs) (hlen : sxs.length ≤ 63) :
  ∀ (cn : Str) (sn : List (Str × NameKind)) (sg sc : Bool) (sm : _) (a : Addr) (ccd : Value) (cl : List (Str × Addr)) (outer : List Env) (A₀ : Around) (base h₀ : Heap) (L : Addr) (m : Str → Option Value)
    (news : List (Addr × Obj)) (s : Shared) (Q E : Value → Shared → Prop) (mean : ExcName → Option Value) (mg mb : Str → Option Value),
    Below A₀ base outer h₀ → Fr h₀ L s.heap m → (hd.heap_1 w.params).In h₀ → News h₀ L s.heap news → Top topProg LS mean mg mb h₀ → base.IsList sl svs.toArray →
    (∀ v bl cl news' h' tk', Fr h₀ L h' m → News h₀ L h' news' → (∀ p ∈ news, p ∈ news') → BoxAt (-1) news' v bl cl → Q v { s with heap := h', toks := tk' }) →
    wpAny (model PySem.Challenge.rw_np0298_01.row.prog w) (ktrTop 650 700 none cn ⟨.function, sn, sg, sc, sm⟩ L a ccd cl outer) (call (.ref 363) [.ref sl]) Q E s := by
  k_fill
  intro cn sn sg sc sm a ccd cl outer A₀ base h₀ L m news s Q E mean mg mb B F X N T hl hret
  repeat' ((fail_if_success (with_reducible show wpAny _ _ (pyIter _) _ _ _)); first | (k_unfold; (try dsimp only)) | walk1)
  (rename Fr _ _ _ _ => lF)
  (rename News _ _ _ (_ :: _) => lN)
  (rename IntsAre _ (List.take 40 sxs) => lI)
  refine compIN rfl lF lN (.head _) (by simpa using lI) ?_ ?_ ?_
  · have := lI.length
    rw [sizeLine_eq, List.size_toArray]
    simp at this
    omega
  · intro C n t s₃ m₃ E' hn hx F₃
    k_steps
    exact keeps_refl
  · clear lF lN
    intro D h' tk ys c' lF lN hys hsz
    have hz : ys.size ≤ 40 := by
      have := lI.length
      rw [hsz, List.size_toArray, this]
      simp
      omega
    k_steps
    try clear lF lN
    (rename Fr _ _ _ _ => lF)
    (rename News _ _ _ (_ :: _) => lN)
    (rename _ ∧ _ ∧ AllLt _ _ => lA)
    refine iterB (fun o => ∃ h t1 t2 n, o = W.listOf #[.int (-1) t1, .ref D, .int h t2] n ∧ 0 ≤ h ∧ h < 2147483647) rfl lF lN (Nat.ne_of_lt lA.1) (fun p hp => by
      rcases List.mem_cons.mp hp with rfl | hp
      · exact Nat.ne_of_lt lA.2.1
      · exact allLt_ne lA.2.2 p hp) hys ⟨_, _, _, _, rfl, by decide, by decide⟩ ?_ ?_
    · rintro n t o h tk own ⟨hh, t1, t2, nn, rfl, b1, b2⟩ hob F₁ N₁
      k_steps
      exact ⟨_, _, _, _, rfl, by with_reducible assumption, by with_reducible assumption, _, _, _, _, rfl, (fmod_range (by decide)).1, (fmod_range (by decide)).2⟩
    · rintro o h tk u ⟨hh, t1, t2, nn, rfl, b1, b2⟩ F₁ N₁
      k_steps
      exact hret _ _ _ _ _ _ (by with_reducible assumption) (by with_reducible assumption) (fun p hp => .tail _ (.tail _ (.tail _ hp))) ⟨-1, hh, t1, t2, nn, ys, _, c', rfl, .head _, .tail _ (.head _), Nat.ne_of_lt lA.1, hys, hz, by decide, by decide, b1, b2⟩

end

section
noncomputable def V.told : V → PyData
  | .int n => .int n | .str x => .str x | .name x => .str x | .node j => .int j
  | .pat j => .tuple [.str (Str.ofString "len"), .int j] | .dly j => .tuple [.str (Str.ofString "whole"), .int j]
noncomputable def ToldIs (ns : List (Addr × Obj)) (tv : Value) : V → Prop
  | .int n => ∃ t, tv = .int n t
  | .str x => ∃ t, tv = .str x t
  | .name x => ∃ t, tv = .str x t
  | .node j => ∃ t, tv = .int j t
  | .pat j => ∃ p t1 t2 c, tv = .ref p ∧ (p, tupO [.str (Str.ofString "len") t1, .int j t2] c) ∈ ns
  | .dly j => ∃ p t1 t2 c, tv = .ref p ∧ (p, tupO [.str (Str.ofString "whole") t1, .int j t2] c) ∈ ns
noncomputable def V.data (v : V) : PyData := .tuple [.str (Str.ofString v.kind), v.told]
noncomputable def V.same (a b : V) : Bool := PySem.Spec.same a.data b.data
theorem ToldIs.more {ns ns' : List (Addr × Obj)} {tv : Value} {v : V} (k : ∀ p ∈ ns, p ∈ ns') (h : ToldIs ns tv v) : ToldIs ns' tv v := by
  cases v with
  | pat j => obtain ⟨p, t1, t2, c, e, hm⟩ := h; exact ⟨p, t1, t2, c, e, k _ hm⟩
  | dly j => obtain ⟨p, t1, t2, c, e, hm⟩ := h; exact ⟨p, t1, t2, c, e, k _ hm⟩
  | _ => exact h
theorem ToldIs.keep {h₀ h : Heap} {L P : Addr} {oP : Obj} {ns ns' : List (Addr × Obj)} {v : V} {tv : Value} (N : News h₀ L h ns) (hP : (P, oP) ∈ ns) (hc : oP.cls ≠ .type "tuple")
    (k : ∀ p ∈ ns, p.1 ≠ P → p ∈ ns') (H : ToldIs ns tv v) : ToldIs ns' tv v := by
  cases v with
  | pat j => obtain ⟨p, t1, t2, c, e, hm⟩ := H; exact ⟨p, t1, t2, c, e, k _ hm (ne_of_obj N hm hP hc.symm)⟩
  | dly j => obtain ⟨p, t1, t2, c, e, hm⟩ := H; exact ⟨p, t1, t2, c, e, k _ hm (ne_of_obj N hm hP hc.symm)⟩
  | _ => exact H
theorem tup_reads {h₀ h : Heap} {L p : Addr} {ns : List (Addr × Obj)} {a b : Value} {da db : PyData} {as bs : List Addr} {c : Nat} (N : News h₀ L h ns) (hm : (p, tupO [a, b] c) ∈ ns) (ra : Reads h a da as) (rb : Reads h b db bs) : ∃ cs, Reads h (.ref p) (.tuple [da, db]) cs :=
  ⟨_, Reads.tuple (N _ hm).1 rfl rfl (ReadsAll.cons ra (ReadsAll.cons rb ReadsAll.nil))⟩
theorem ToldIs.reads {h₀ h : Heap} {L : Addr} {ns : List (Addr × Obj)} {tv : Value} {v : V} (N : News h₀ L h ns) (H : ToldIs ns tv v) : ∃ as, Reads h tv v.told as := by
  cases v with
  | int n => obtain ⟨t, rfl⟩ := H; exact ⟨_, .int _ _⟩
  | str n => obtain ⟨t, rfl⟩ := H; exact ⟨_, .str _ _⟩
  | name n => obtain ⟨t, rfl⟩ := H; exact ⟨_, .str _ _⟩
  | node n => obtain ⟨t, rfl⟩ := H; exact ⟨_, .int _ _⟩
  | pat j => obtain ⟨p, t1, t2, c, rfl, hm⟩ := H; exact tup_reads N hm (.str _ _) (.int _ _)
  | dly j => obtain ⟨p, t1, t2, c, rfl, hm⟩ := H; exact tup_reads N hm (.str _ _) (.int _ _)
theorem strOk_of {x : Str} (h : ∀ c ∈ x.cps.toList, c < 128) : PyData.strOk x = true := by
  unfold PyData.strOk
  rw [Array.all_eq_true']
  intro c hc
  have := h c (by simpa using hc)
  simp
  omega
theorem V.shaped (v : V) (hv : v.ok) : PySem.SeqAt.shaped v.data = true := by
  have h1 : PyData.strOk (Str.ofString v.kind) = true := by cases v <;> (dsimp only [V.kind]; decide +kernel)
  have h2 : PyData.strOk (Str.ofString "len") = true := by decide +kernel
  have h3 : PyData.strOk (Str.ofString "whole") = true := by decide +kernel
  unfold PySem.SeqAt.shaped
  rw [Bool.and_eq_true]
  constructor
  · cases v <;> simp only [V.data, V.told, PyData.canLay0, PyData.canLayAll0, h1, h2, h3, Bool.and_true, Bool.true_and, Bool.and_self]
    · exact strOk_of hv.2
    · exact strOk_of hv.2
  · cases v <;> simp [V.data, V.told, PyData.depth, PyData.depthAll]
theorem V.noMix (a b : V) : PySem.SeqAt.noMix a.data b.data = true := by
  cases a <;> cases b <;> rfl
theorem eq_parts {prog : Program} {w : World} {A : Around} {E : Value → Shared → Prop} {s : Shared} {h₀ : Heap} {L p1 p2 : Addr} {ns : List (Addr × Obj)} {v1 v2 : V} {tv1 tv2 : Value} {t1 t2 : Tok} {c1 c2 : Nat} {Q : Value → Shared → Prop}
    (N : News h₀ L s.heap ns) (hm1 : (p1, tupO [.str (Str.ofString v1.kind) t1, tv1] c1) ∈ ns) (hm2 : (p2, tupO [.str (Str.ofString v2.kind) t2, tv2] c2) ∈ ns) (H1 : ToldIs ns tv1 v1) (H2 : ToldIs ns tv2 v2) (o1 : v1.ok) (o2 : v2.ok) (hu : A.units + 64 < cLine)
    (h : Q (.bool (v1.same v2)) s) : wpAny (model prog w) A (compareOp .Eq (.ref p1) (.ref p2)) Q E s := by
  obtain ⟨as, r1⟩ := H1.reads N
  obtain ⟨bs, r2⟩ := H2.reads N
  obtain ⟨cs, R1⟩ := tup_reads N hm1 (.str _ _) r1
  obtain ⟨ds, R2⟩ := tup_reads N hm2 (.str _ _) r2
  exact eq_dataH_same R1 R2 (v1.shaped o1) (v2.shaped o2) hu (v1.noMix v2) h
section
variable {prog : Program} {w : World} {A : Around} {E : Value → Shared → Prop} {s : Shared} {env : Env} {h₀ : Heap} {target : Expr} {body : List Stmt} {Q : Flow → Shared → Prop}
noncomputable def TurnTup (h₀ : Heap) (L : Addr) (it tp : Addr × Obj) (Jn : (Str → Option Value) → List (Addr × Obj) → Prop) (s : Shared) (Q : Flow → Shared → Prop) (f : Flow) (s₂ : Shared) : Prop :=
  match f with
  | .ret v => Q (.ret v) s₂
  | .brk => Q .next s₂
  | _ => ∃ h' tk' m' R, s₂ = { s with heap := h', toks := tk' } ∧ Fr h₀ L h' m' ∧ News h₀ L h' R ∧ it ∈ R ∧ tp ∈ R ∧ Jn m' (except it.1 R)
theorem turnsAt_mk {it : Value} {s₂ : Shared} {I : Addr} {fp wr : List Addr} {n : Nat} {P Md : Nat → Value → Heap → Prop} {St : Nat → Heap → Prop} {m : Str → Option Value} {news : List (Addr × Obj)} (J : Nat → (Str → Option Value) → List (Addr × Obj) → Prop)
    (hi : it = .ref I) (W : KTurns prog w A target I fp wr n P Md St) (h1 : env.locals ∉ fp) (h2 : ∀ b ∈ wr, h₀.get? b = none) (h3 : ∀ p ∈ news, p.1 ∉ wr) (h4 : St 0 s₂.heap) (F : Fr h₀ env.locals s₂.heap m) (N : News h₀ env.locals s₂.heap news) (h0 : J 0 m news)
    (step : ∀ i v m₁ news₁ h₁ tk₁ own, i < n → P i v h₁ → J i m₁ news₁ → (∀ p ∈ news₁, p.1 ∉ wr) → (∀ p ∈ own, p.1 ∈ fp) → (∀ p ∈ own, h₁.get? p.1 = some p.2) → (∀ b ∈ fp, h₀.get? b = none → ∀ o, h₁.get? b = some o → (b, o) ∈ own) → St (i + 1) h₁ →
      Fr h₀ env.locals h₁ m₁ → News h₀ env.locals h₁ (own ++ news₁) →
      wpAny (model prog w) A (assign target env v) (fun _ s₃ => wpAny (model prog w) A (execs body env)
        (LoopStepV h₀ env.locals wr own (J (i + 1)) { s₂ with heap := h₁, toks := tk₁ } (fun v s' => Q (.ret v) s') fun s' => Q .next s') E s₃) E { s₂ with heap := h₁, toks := tk₁ })
    (done : ∀ h' tk m' news', Fr h₀ env.locals h' m' → News h₀ env.locals h' news' → (∀ p ∈ news', p.1 ∉ wr) → J n m' news' → Q .next { s₂ with heap := h', toks := tk }) : TurnsAt prog w A h₀ env target body Q E it s₂ :=
  ⟨I, fp, wr, n, P, Md, St, m, news, J, hi, W, h1, h2, h3, h4, F, N, h0, step, done⟩
/-- a for over a made tuple, its target whatever it is, the ledger told by a word of one's own -/
theorem iterTup {D : Addr} {vs : List Value} {c : Nat} {m₀ : Str → Option Value} {news : List (Addr × Obj)} (J : Nat → (Str → Option Value) → List (Addr × Obj) → Prop) (hh : A.handled = none)
    (F : Fr h₀ env.locals s.heap m₀) (N : News h₀ env.locals s.heap news) (hm : (D, tupO vs c) ∈ news) (h0 : J 0 m₀ news)
    (turn : ∀ i v m₁ nx I oI h tk, vs[i]? = some v → J i m₁ nx → Fr h₀ env.locals h m₁ → News h₀ env.locals h ((I, oI) :: nx) → (D, tupO vs c) ∈ nx → oI.cls = .type "tuple_iterator" → (∀ p ∈ nx, p.1 ≠ I) →
      wpAny (model prog w) A (assign target env v) (fun _ s₃ => wpAny (model prog w) A (execs body env) (TurnTup h₀ env.locals (I, oI) (D, tupO vs c) (J (i + 1)) { s with heap := h, toks := tk } Q) E s₃) E { s with heap := h, toks := tk })
    (done : ∀ m₁ nx h tk, J vs.length m₁ nx → Fr h₀ env.locals h m₁ → News h₀ env.locals h nx → Q .next { s with heap := h, toks := tk }) :
    wpAny (model prog w) A (pyIter (.ref D)) (fun it s₂ => TurnsAt prog w A h₀ env target body Q E it s₂) E s := by
  have hl : s.heap.IsTuple D vs.toArray := ⟨_, (N _ hm).1, rfl, _, rfl⟩
  have hne : D ≠ s.heap.objs.size := Nat.ne_of_lt (Heap.lt_size (N _ hm).1)
  have hD0 : h₀.get? D = none := (N _ hm).2.2
  have hI0 : h₀.get? s.heap.objs.size = none := next_is_new F
  refine wpAny_pyIter_tuple hl ?_
  have hst : (s.heap.push { cls := .type "tuple_iterator", data := .fields #[.ref D, .int 0 0] }).IsTuple D vs.toArray := by
    obtain ⟨o, ho, r⟩ := hl
    exact ⟨o, Heap.get?_push_of_some _ ho, r⟩
  refine turnsAt_mk (wr := [s.heap.objs.size]) (news := news) (fun i m nx => J i m nx ∧ (D, tupO vs c) ∈ nx) rfl (KTurns.ofWalks (Walks.tuple hh _ D hne vs.toArray) (fun i v s' Q' E' st hq => letGo_tupleiter st.1 hq)) ?_ ?_ ?_ ⟨⟨_, Heap.get?_push_size _ rfl, rfl, rfl⟩, hst⟩ (F.push _)
    (fun p hp => ⟨Heap.get?_push_of_some _ (N p hp).1, (N p hp).2⟩) ⟨h0, hm⟩ ?_ ?_
  · intro hb
    rcases List.mem_cons.mp hb with e | hb
    · exact absurd F.ns.lt (e ▸ Nat.lt_irrefl _)
    · exact (N _ hm).2.1 (List.mem_singleton.mp hb).symm
  · intro b hb
    rw [List.mem_singleton.mp hb]
    exact hI0
  · intro p hp hI'
    exact absurd (Heap.lt_size (N p hp).1) ((List.mem_singleton.mp hI') ▸ Nat.lt_irrefl _)
  · rintro i v m₁ nx h tk own hi hv ⟨hJ, hDn⟩ hoff hown hget hall st F₁ N₁
    obtain ⟨⟨oI, eI, cI, dI⟩, -⟩ := st
    have mI : (s.heap.objs.size, oI) ∈ own := hall _ (.head _) hI0 _ eI
    have hoff' : ∀ p ∈ nx, p.1 ≠ s.heap.objs.size := fun p hp e => hoff p hp (e ▸ List.mem_singleton_self _)
    have N₂ : News h₀ env.locals h ((s.heap.objs.size, oI) :: nx) := nsub N₁ fun q hq => by
      rcases List.mem_cons.mp hq with rfl | hq
      · exact List.mem_append_left _ mI
      · exact List.mem_append_right _ hq
    refine wpAny_mono (turn i v m₁ nx _ oI h tk (by simpa using hv) hJ F₁ N₂ hDn cI hoff') (fun _ s₃ p => wpAny_mono p (fun f s₄ q => ?_) fun _ _ e => e) fun _ _ e => e
    have fin : (∃ h' tk' m' R, s₄ = { s with heap := h', toks := tk' } ∧ Fr h₀ env.locals h' m' ∧ News h₀ env.locals h' R ∧ (s.heap.objs.size, oI) ∈ R ∧ (D, tupO vs c) ∈ R ∧ J (i + 1) m' (except s.heap.objs.size R)) →
        LoopStepU h₀ env.locals [s.heap.objs.size] own (fun m nx => J (i + 1) m nx ∧ (D, tupO vs c) ∈ nx) { ({ s with heap := s.heap.push { cls := .type "tuple_iterator", data := .fields #[.ref D, .int 0 0] } } : Shared) with heap := h, toks := tk } .next s₄ := by
      rintro ⟨h', tk', m', R, rfl, F', N', r1, r2, hJ'⟩
      refine ⟨rfl, h', tk', m', except s.heap.objs.size R, rfl, F', fun p hp => ?_, fun p hp hI' => (mem_except.mp hp).2 (List.mem_singleton.mp hI'), hJ', mem_except.mpr ⟨r2, hne⟩⟩
      rcases List.mem_append.mp hp with hp | hp
      · have e1 := hget p hp
        rcases List.mem_cons.mp (hown p hp) with e | e
        · obtain ⟨b, o⟩ := p
          obtain rfl : b = s.heap.objs.size := e
          have : o = oI := by
            have q := (N₂ _ (.head _)).1
            rw [show ((s.heap.objs.size, oI) : Addr × Obj).1 = s.heap.objs.size from rfl] at q
            rw [show ((s.heap.objs.size, o) : Addr × Obj).1 = s.heap.objs.size from rfl, q] at e1
            exact (Option.some.inj e1).symm
          subst this
          exact N' _ r1
        · obtain ⟨b, o⟩ := p
          obtain rfl : b = D := List.mem_singleton.mp e
          have : o = tupO vs c := by
            have q := (N₂ _ (.tail _ hDn)).1
            rw [show ((b, tupO vs c) : Addr × Obj).1 = b from rfl] at q
            rw [show ((b, o) : Addr × Obj).1 = b from rfl, q] at e1
            exact (Option.some.inj e1).symm
          subst this
          exact N' _ r2
      · exact N' _ (mem_except.mp hp).1
    cases f with
    | ret v => exact q
    | brk => exact q
    | next => exact fin q
    | cont => exact fin q
  · rintro h' tk m' nx F' N' hoff ⟨hJ, -⟩
    exact done m' nx h' tk (by simpa using hJ) F' N'
theorem iterTup3 (n1 n2 n3 : Str) {D : Addr} {vs : List Value} {c : Nat} {m₀ : Str → Option Value} {news : List (Addr × Obj)} (J : Nat → List (Addr × Obj) → Prop) (hh : A.handled = none)
    (F : Fr h₀ env.locals s.heap m₀) (N : News h₀ env.locals s.heap news) (hm : (D, tupO vs c) ∈ news) (h0 : J 0 news)
    (turn : ∀ i v u1 u2 u3 nx I oI h tk, vs[i]? = some v → J i nx → Fr h₀ env.locals h (fun y => if y = n1 then u1 else if y = n2 then u2 else if y = n3 then u3 else m₀ y) → News h₀ env.locals h ((I, oI) :: nx) → (D, tupO vs c) ∈ nx → oI.cls = .type "tuple_iterator" → (∀ p ∈ nx, p.1 ≠ I) →
      wpAny (model prog w) A (assign target env v) (fun _ s₃ => wpAny (model prog w) A (execs body env) (TurnTup h₀ env.locals (I, oI) (D, tupO vs c) (fun m R => (∃ u1 u2 u3, m = fun y => if y = n1 then u1 else if y = n2 then u2 else if y = n3 then u3 else m₀ y) ∧ J (i + 1) R) { s with heap := h, toks := tk } Q) E s₃) E { s with heap := h, toks := tk })
    (done : ∀ u1 u2 u3 nx h tk, J vs.length nx → Fr h₀ env.locals h (fun y => if y = n1 then u1 else if y = n2 then u2 else if y = n3 then u3 else m₀ y) → News h₀ env.locals h nx → Q .next { s with heap := h, toks := tk }) :
    wpAny (model prog w) A (pyIter (.ref D)) (fun it s₂ => TurnsAt prog w A h₀ env target body Q E it s₂) E s := by
  refine iterTup (fun i m nx => (∃ u1 u2 u3, m = fun y => if y = n1 then u1 else if y = n2 then u2 else if y = n3 then u3 else m₀ y) ∧ J i nx) hh F N hm ⟨⟨m₀ n1, m₀ n2, m₀ n3, ?_⟩, h0⟩ ?_ ?_
  · funext y
    by_cases h1 : y = n1
    · simp [h1]
    · by_cases h2 : y = n2
      · rw [if_neg h1, if_pos h2, h2]
      · by_cases h3 : y = n3
        · rw [if_neg h1, if_neg h2, if_pos h3, h3]
        · rw [if_neg h1, if_neg h2, if_neg h3]
  · rintro i v m₁ nx I oI h tk hv ⟨⟨u1, u2, u3, rfl⟩, hJ⟩ F₁ N₁ hD cI hoff
    exact turn i v u1 u2 u3 nx I oI h tk hv hJ F₁ N₁ hD cI hoff
  · rintro m₁ nx h tk ⟨⟨u1, u2, u3, rfl⟩, hJ⟩ F₁ N₁
    exact done u1 u2 u3 nx h tk hJ F₁ N₁
end

theorem inPE (v : V) : ([Str.ofString "PATTERN", Str.ofString "EXPRESSION"].any fun x => x == Str.ofString v.kind) = (V.isC 68 v || V.isC 89 v) := by
  cases v <;> (dsimp only [V.kind, V.isC]; decide +kernel)
theorem inNN (v : V) : ([Str.ofString "NAME", Str.ofString "NODE"].any fun x => x == Str.ofString v.kind) = (V.isC 131 v || V.isC 152 v) := by
  cases v <;> (dsimp only [V.kind, V.isC]; decide +kernel)
theorem V.inDly {v : V} (h : ([Str.ofString "PATTERN", Str.ofString "EXPRESSION"].any fun x => x == Str.ofString v.kind) = true) (h2 : V.isC 68 v = false) : V.isC 89 v = true := by rw [inPE, h2] at h; simpa using h
theorem V.inNode {v : V} (h : ([Str.ofString "NAME", Str.ofString "NODE"].any fun x => x == Str.ofString v.kind) = true) (h2 : V.isC 131 v = false) : V.isC 152 v = true := by rw [inNN, h2] at h; simpa using h
theorem V.inPlain {v : V} (h : ([Str.ofString "PATTERN", Str.ofString "EXPRESSION"].any fun x => x == Str.ofString v.kind) = false) (h2 : ([Str.ofString "NAME", Str.ofString "NODE"].any fun x => x == Str.ofString v.kind) = false) : v.plain = true := by
  rw [inPE] at h
  rw [inNN] at h2
  cases v <;> first | rfl | (simp [V.isC] at h; done) | (simp [V.isC] at h2; done)
theorem ToldIs.plain {w : World} {ns ns' : List (Addr × Obj)} {v : V} {val : Value} (hp : v.plain = true) (hb : Bears w ns v val) : ToldIs ns' val v := by
  cases v <;> first | exact hb | (cases hp; done)

theorem fr_again {h₀ h : Heap} {L : Addr} {x : Str} {v : Value} {m : Str → Option Value} (F : Fr h₀ L h (fun y => if y = x then some v else m y)) : Fr h₀ L h (fun y => if y = x then some v else if y = x then some v else m y) := by
  have e : (fun y => if y = x then some v else if y = x then some v else m y) = fun y => if y = x then some v else m y := by
    funext y
    by_cases hy : y = x <;> simp [hy]
  rw [e]
  exact F

theorem m3_norm {n1 n2 n3 : Str} {a b c d e f g : Option Value} {m₀ : Str → Option Value} :
    (fun y => if y = n1 then a else if y = n1 then b else if y = n2 then c else if y = n3 then d else if y = n1 then e else if y = n2 then f else if y = n3 then g else m₀ y) = fun y => if y = n1 then a else if y = n2 then c else if y = n3 then d else m₀ y := by
  funext y
  by_cases h1 : y = n1
  · simp [h1]
  · by_cases h2 : y = n2
    · simp only [if_neg h1, if_pos h2]
    · by_cases h3 : y = n3
      · simp only [if_neg h1, if_neg h2, if_pos h3]
      · simp only [if_neg h1, if_neg h2, if_neg h3]
/-- one more part at the end of a turn -/
theorem parts_more {h₀ h : Heap} {L pl I Dn : Addr} {oI : Obj} {vv : Nat → V} {vi : V} {i n : Nat} {rs : List Addr} {rs0 news : List (Addr × Obj)} {t : Tok} {tv : Value}
    (N : News h₀ L h ((Dn, tupO [.str (Str.ofString vi.kind) t, tv] 0) :: (pl, W.listOf ((rs.map Value.ref).toArray.push (.ref Dn)) (n + 1)) :: rs0)) (hI : (I, oI) ∈ rs0) (cI : oI.cls = .type "tuple_iterator") (hIp : I ≠ pl) (hIn : ∀ p ∈ news, p.1 ≠ I) (hk : ∀ p ∈ news, p ∈ rs0)
    (hlen : rs.length = i) (hvi : vv i = vi) (hT : ToldIs rs0 tv vi) (hp : ∀ k (h : k < rs.length), ∃ t tv c, (rs[k], tupO [.str (Str.ofString (vv k).kind) t, tv] c) ∈ rs0 ∧ ToldIs rs0 tv (vv k)) :
    (∀ p ∈ news, p ∈ except I ((Dn, tupO [.str (Str.ofString vi.kind) t, tv] 0) :: (pl, W.listOf ((rs.map Value.ref).toArray.push (.ref Dn)) (n + 1)) :: rs0)) ∧
      ∃ (n' : Nat) (rs' : List Addr), rs'.length = i + 1 ∧ (pl, W.listOf (rs'.map Value.ref).toArray n') ∈ except I ((Dn, tupO [.str (Str.ofString vi.kind) t, tv] 0) :: (pl, W.listOf ((rs.map Value.ref).toArray.push (.ref Dn)) (n + 1)) :: rs0) ∧
        ∀ k (h : k < rs'.length), ∃ t' tv' c, (rs'[k], tupO [.str (Str.ofString (vv k).kind) t', tv'] c) ∈ except I ((Dn, tupO [.str (Str.ofString vi.kind) t, tv] 0) :: (pl, W.listOf ((rs.map Value.ref).toArray.push (.ref Dn)) (n + 1)) :: rs0) ∧
          ToldIs (except I ((Dn, tupO [.str (Str.ofString vi.kind) t, tv] 0) :: (pl, W.listOf ((rs.map Value.ref).toArray.push (.ref Dn)) (n + 1)) :: rs0)) tv' (vv k) := by
  have hI' : (I, oI) ∈ (Dn, tupO [.str (Str.ofString vi.kind) t, tv] 0) :: (pl, W.listOf ((rs.map Value.ref).toArray.push (.ref Dn)) (n + 1)) :: rs0 := .tail _ (.tail _ hI)
  have hin : ∀ {b : Addr} {o : Obj}, (b, o) ∈ (Dn, tupO [.str (Str.ofString vi.kind) t, tv] 0) :: (pl, W.listOf ((rs.map Value.ref).toArray.push (.ref Dn)) (n + 1)) :: rs0 → o.cls = .type "tuple" → (b, o) ∈ except I ((Dn, tupO [.str (Str.ofString vi.kind) t, tv] 0) :: (pl, W.listOf ((rs.map Value.ref).toArray.push (.ref Dn)) (n + 1)) :: rs0) := fun hm hc =>
    mem_except.mpr ⟨hm, ne_of_obj N hm hI' (by rw [hc, cI]; simp)⟩
  generalize hR : (Dn, tupO [.str (Str.ofString vi.kind) t, tv] 0) :: (pl, W.listOf ((rs.map Value.ref).toArray.push (.ref Dn)) (n + 1)) :: rs0 = R at *
  have hsub : ∀ p ∈ rs0, p ∈ R := fun p hp => by rw [← hR]; exact .tail _ (.tail _ hp)
  have hto : ∀ {tv : Value} {v : V}, ToldIs rs0 tv v → ToldIs (except I R) tv v := fun H =>
    (H.more hsub).keep N hI' (by rw [cI]; simp) fun p hp hn => mem_except.mpr ⟨hp, hn⟩
  have hDn : (Dn, tupO [.str (Str.ofString vi.kind) t, tv] 0) ∈ R := by rw [← hR]; exact .head _
  have hpl : (pl, W.listOf ((rs.map Value.ref).toArray.push (.ref Dn)) (n + 1)) ∈ R := by rw [← hR]; exact .tail _ (.head _)
  refine ⟨fun p hp => mem_except.mpr ⟨hsub _ (hk p hp), hIn p hp⟩, n + 1, rs ++ [Dn], by simp [hlen], ?_, fun k hlt => ?_⟩
  · rw [show ((rs ++ [Dn]).map Value.ref).toArray = ((rs.map Value.ref).toArray.push (.ref Dn)) from by simp]
    exact mem_except.mpr ⟨hpl, hIp.symm⟩
  · by_cases hk' : k < rs.length
    · obtain ⟨t', tv', c, q1, q2⟩ := hp k hk'
      refine ⟨t', tv', c, ?_, hto q2⟩
      rw [List.getElem_append_left hk']
      exact hin (hsub _ q1) rfl
    · have hke : k = i := by
        rw [List.length_append] at hlt
        simp at hlt
        omega
      subst hke
      refine ⟨t, tv, 0, ?_, by rw [hvi]; exact hto hT⟩
      rw [List.getElem_append_right (by omega)]
      simp only [hlen, Nat.sub_self, List.getElem_cons_zero, hvi]
      exact hin hDn rfl

end

section
section
local macro_rules | `(tactic| k_steps) => steps [] ["pyIter _", "exec Stmt.If:4 _", "compareOp _ Value.ref:1 Value.ref:1"]
theorem c_alike (w : World) (v1 v2 : V) (val1 val2 : Value) (a1 a2 : Addr) (t1 t2 : Tok) (c1 c2 : Nat) (o1 : v1.ok) (o2 : v2.ok) :
    Tells w 650 700 394 [.ref a1, .ref a2] (fun ns => Bears w ns v1 val1 ∧ Bears w ns v2 val2 ∧ (a1, tupO [val1, .str (Str.ofString v1.kind) t1] c1) ∈ ns ∧ (a2, tupO [val2, .str (Str.ofString v2.kind) t2] c2) ∈ ns)
      (fun ns r ns' => r = .bool (v1.same v2) ∧ ∀ p ∈ ns, p ∈ ns') := by
  unfold Tells
  k_fill
  intro cn sn sg sc sm a ccd cl outer A₀ base h₀ L m news s Q E mean mg mb B F X N T hpre hret
  obtain ⟨hb1, hb2, hm1, hm2⟩ := hpre
  k_steps
  (rename Fr _ _ _ _ => lF)
  (rename News _ _ _ (_ :: _) => lN)
  rename_i pl hx1 lx1 hx2 Dt hx3 lx2
  have hpl : ∀ p ∈ news, p.1 ≠ pl := fun p hp => Nat.ne_of_lt (lx1 p hp)
  have hDp : Dt ≠ pl := Nat.ne_of_gt lx2.1
  obtain ⟨vv, hvv0, hvv1⟩ : ∃ vv : Nat → V, vv 0 = v1 ∧ vv 1 = v2 := ⟨fun i => if i = 0 then v1 else v2, rfl, rfl⟩
  refine iterTup3 (Str.ofString "told") (Str.ofString "kind") (Str.ofString "value") (fun i nx => (∀ p ∈ news, p ∈ nx) ∧ ∃ n rs, rs.length = i ∧ (pl, W.listOf (rs.map Value.ref).toArray n) ∈ nx ∧ ∀ k (h : k < rs.length), ∃ t tv c, (rs[k], tupO [.str (Str.ofString (vv k).kind) t, tv] c) ∈ nx ∧ ToldIs nx tv (vv k))
    rfl lF lN (.head _) ⟨fun p hp => .tail _ (.tail _ hp), 0, [], rfl, .tail _ (.head _), fun k h => absurd h (Nat.not_lt_zero k)⟩ ?_ ?_
  · clear lF lN
    intro i v u1 u2 u3 nx I oI h tk hv S9 F₁ N₁ hD cI hoff
    refine hideG fun H9 hG9 => ?_
    obtain ⟨hk, n, rs, hlen, hmp, hparts⟩ := S9
    obtain ⟨val', ad, t', c', rfl, hb, hma, hok⟩ : ∃ val' ad t' c', v = .ref ad ∧ Bears w news (vv i) val' ∧ (ad, tupO [val', .str (Str.ofString (vv i).kind) t'] c') ∈ news ∧ (vv i).ok := by
      rcases i with _ | _ | i
      · cases hv; rw [hvv0]; exact ⟨_, _, _, _, rfl, hb1, hm1, o1⟩
      · cases hv; rw [show 0 + 1 = 1 from rfl, hvv1]; exact ⟨_, _, _, _, rfl, hb2, hm2, o2⟩
      · simp at hv
    refine hG9 ?_
    clear hG9 H9
    have kp : ∀ p ∈ (I, oI) :: nx, p.1 ≠ pl → p ∈ except pl ((I, oI) :: nx) := fun p hp hn => mem_except.mpr ⟨hp, hn⟩
    have N₂ : News _ _ h ((pl, W.listOf (rs.map Value.ref).toArray n) :: except pl ((I, oI) :: nx)) := nsub N₁ fun q hq => by
      rcases List.mem_cons.mp hq with rfl | hq
      · exact .tail _ hmp
      · exact (mem_except.mp hq).1
    have hx : ∀ p ∈ except pl ((I, oI) :: nx), p.1 ≠ pl := fun p hp => (mem_except.mp hp).2
    have hb' : Bears w (except pl ((I, oI) :: nx)) (vv i) val' := hb.more (fun p hp => kp p (.tail _ (hk _ hp)) (hpl _ hp))
    have hma' : (ad, tupO [val', .str (Str.ofString (vv i).kind) t'] c') ∈ except pl ((I, oI) :: nx) := kp _ (.tail _ (hk _ hma)) (hpl _ hma)
    have hI' : (I, oI) ∈ except pl ((I, oI) :: nx) := kp _ (.head _) (hoff _ hmp).symm
    have hD' : (Dt, tupO [Value.ref a1, Value.ref a2] 0) ∈ except pl ((I, oI) :: nx) := kp _ (.tail _ hD) hDp
    have hk' : ∀ p ∈ news, p ∈ except pl ((I, oI) :: nx) := fun p hp => kp p (.tail _ (hk _ hp)) (hpl _ hp)
    have hp' : ∀ k (h : k < rs.length), ∃ t tv c, (rs[k], tupO [.str (Str.ofString (vv k).kind) t, tv] c) ∈ except pl ((I, oI) :: nx) ∧ ToldIs (except pl ((I, oI) :: nx)) tv (vv k) := fun k hlt => by
      obtain ⟨t, tv, c, q1, q2⟩ := hparts k hlt
      exact ⟨t, tv, c, kp _ (.tail _ q1) (ne_of_obj N₁ (.tail _ q1) (.tail _ hmp) (by simp)), q2.keep (ncons N₁) hmp (by simp) fun p hp hn => kp p (.tail _ hp) hn⟩
    have hIn : ∀ p ∈ news, p.1 ≠ I := fun p hp => hoff _ (hk _ hp)
    have hDI : Dt ≠ I := hoff _ hD
    have hIp : I ≠ pl := (hoff _ hmp).symm
    have hi2 : i < 2 := by
      have := (List.getElem?_eq_some_iff.mp hv).1
      simpa using this
    clear hb1 hb2 hm1 hm2 hb hma hk hmp hparts N₁ hD hoff kp hv lx1 lx2
    generalize except pl ((I, oI) :: nx) = rs0 at *
    generalize hvi : vv i = vi at *
    k_steps
    (rename Fr _ _ _ _ => lF)
    (rename News _ _ _ (_ :: _) => lN)
    refine cut_name (Str.ofString "told") (fun tv => ToldIs rs0 tv vi) lF lN ?_ ?_
    · k_fold
      repeat' (walk_at "my step")
      · refine hb'.opPat (by with_reducible assumption) fun j p d tp q1 q2 q3 c e u mp md mt => ?_
        subst u
        clear hb'
        repeat' (walk_at "my step")
        exact CutPost.intro (by with_reducible assumption) (by with_reducible assumption) (fun p hp => by first | exact .tail _ hp | exact .tail _ (.tail _ hp)) (by rw [e]; exact ⟨_, _, _, _, rfl, mt⟩)
      · refine hb'.opDly (V.inDly (by with_reducible assumption) (by with_reducible assumption)) fun j p d tp q1 q2 q3 c e u mp md mt => ?_
        subst u
        clear hb'
        repeat' (walk_at "my step")
        exact CutPost.intro (by with_reducible assumption) (by with_reducible assumption) (fun p hp => by first | exact .tail _ hp | exact .tail _ (.tail _ hp)) (by rw [e]; exact ⟨_, _, _, _, rfl, mt⟩)
      · refine hb'.opName (by with_reducible assumption) fun j p d q1 q2 q3 q4 q5 e u mp md => ?_
        subst u
        clear hb'
        repeat' (walk_at "my step")
        exact CutPost.intro (by with_reducible assumption) (by with_reducible assumption) (fun p hp => by first | exact .tail _ hp | exact .tail _ (.tail _ hp)) (by rw [e]; exact ⟨_, rfl⟩)
      · refine hb'.opNode (V.inNode (by with_reducible assumption) (by with_reducible assumption)) fun j p d q1 q2 q3 q4 q5 q6 e u mp md => ?_
        subst u
        clear hb'
        repeat' (walk_at "my step")
        exact CutPost.intro (by with_reducible assumption) (by with_reducible assumption) (fun p hp => by first | exact .tail _ hp | exact .tail _ (.tail _ hp)) (by rw [e]; exact ⟨_, rfl⟩)
      · exact CutPost.intro (fr_again (by with_reducible assumption)) (by with_reducible assumption) (fun p hp => .tail _ (.tail _ hp)) (ToldIs.plain (V.inPlain (by with_reducible assumption) (by with_reducible assumption)) hb')
    · clear lF lN
      intro h tk tv lF lN hT
      k_steps
      try clear lF lN
      (rename Fr _ _ _ _ => lF)
      (rename News _ _ _ (_ :: _) => lN)
      rw [m3_norm] at lF
      exact ⟨_, _, _, _, rfl, lF, lN, .tail _ (.tail _ hI'), .tail _ (.tail _ hD'), ⟨_, _, _, rfl⟩, parts_more lN hI' cI hIp hIn hk' hlen hvi hT hp'⟩
  · clear lF lN
    intro u1 u2 u3 nx h tk S9 lF lN
    refine hideG fun H9 hG9 => ?_
    obtain ⟨hk, n, rs, hlen, hmp, hparts⟩ := S9
    obtain ⟨r0, r1, rfl⟩ : ∃ r0 r1, rs = [r0, r1] := by
      match rs, hlen with
      | [r0, r1], _ => exact ⟨r0, r1, rfl⟩
    obtain ⟨p1, p2, p3, p4, p5⟩ := hparts 0 (by simp)
    obtain ⟨q1, q2, q3, q4, q5⟩ := hparts 1 (by simp)
    refine hG9 ?_
    clear hG9 H9
    rw [hvv0] at p4 p5
    rw [hvv1] at q4 q5
    replace p4 : (r0, tupO [.str (Str.ofString v1.kind) p1, p2] p3) ∈ nx := p4
    replace q4 : (r1, tupO [.str (Str.ofString v2.kind) q1, q2] q3) ∈ nx := q4
    replace hmp : (pl, W.listOf #[.ref r0, .ref r1] n) ∈ nx := hmp
    have lN2 : News _ _ h ((pl, W.listOf #[.ref r0, .ref r1] n) :: nx) := nsub lN fun q hq => by
      rcases List.mem_cons.mp hq with rfl | hq
      · exact hmp
      · exact hq
    clear hparts hb1 hb2 hm1 hm2 lN
    k_steps
    (rename News _ _ _ (_ :: _) => lN)
    refine eq_parts (ncons lN) p4 q4 p5 q5 o1 o2 (by k_units) ?_
    k_steps
    exact hret _ _ _ _ (by with_reducible assumption) (by with_reducible assumption) ⟨rfl, fun p hp => by first | exact hk p hp | exact .tail _ (hk p hp)⟩
end

end

section
theorem same_eq (a b : V) : a.same b = ((Str.ofString a.kind == Str.ofString b.kind) && PySem.Spec.same a.told b.told) := by
  unfold V.same V.data
  simp [PySem.Spec.same, PySem.Spec.sameAll]
theorem same_ne {a b : V} (h : (Str.ofString a.kind != Str.ofString b.kind) = true) : a.same b = false := by
  rw [same_eq]
  have : (Str.ofString a.kind == Str.ofString b.kind) = false := by simpa [bne] using h
  rw [this]
  rfl
theorem kind_eq {a b : V} (h : (Str.ofString a.kind != Str.ofString b.kind) = false) : a.kind = b.kind := by
  cases a <;> cases b <;> first | rfl | (dsimp only [V.kind] at h; exact absurd h (by decide +kernel))
theorem same_told {a b : V} (h : (Str.ofString a.kind != Str.ofString b.kind) = false) : a.same b = PySem.Spec.same a.told b.told := by
  rw [same_eq]
  have : (Str.ofString a.kind == Str.ofString b.kind) = true := by simpa [bne] using h
  rw [this, Bool.true_and]
theorem V.told_shaped (v : V) (hv : v.ok) : PySem.SeqAt.shaped v.told = true := by
  have h := v.shaped hv
  unfold PySem.SeqAt.shaped at h ⊢
  rw [Bool.and_eq_true] at h ⊢
  obtain ⟨h1, h2⟩ := h
  simp only [V.data, PyData.canLay0, PyData.canLayAll0, Bool.and_true, Bool.and_eq_true] at h1
  refine ⟨h1.2, ?_⟩
  cases v <;> simp [V.told, PyData.depth, PyData.depthAll]
theorem V.told_noMix {a b : V} (h : a.kind = b.kind) : PySem.SeqAt.noMix a.told b.told = true := by
  cases a <;> cases b <;> first | rfl | (dsimp only [V.kind] at h; exact absurd h (by decide))
theorem eq_told {prog : Program} {w : World} {A : Around} {E : Value → Shared → Prop} {s : Shared} {h₀ : Heap} {L : Addr} {ns : List (Addr × Obj)} {v1 v2 : V} {tv1 tv2 : Value} {Q : Value → Shared → Prop}
    (N : News h₀ L s.heap ns) (H1 : ToldIs ns tv1 v1) (H2 : ToldIs ns tv2 v2) (o1 : v1.ok) (o2 : v2.ok) (hk : (Str.ofString v1.kind != Str.ofString v2.kind) = false) (hu : A.units + 64 < cLine)
    (h : Q (.bool (v1.same v2)) s) : wpAny (model prog w) A (compareOp .Eq tv1 tv2) Q E s := by
  obtain ⟨as, r1⟩ := H1.reads N
  obtain ⟨bs, r2⟩ := H2.reads N
  exact eq_dataH_same r1 r2 (v1.told_shaped o1) (v2.told_shaped o2) hu (V.told_noMix (kind_eq hk)) (by rw [← same_told hk]; exact h)
theorem V.twC {a b : V} {C : Nat} (h : (Str.ofString a.kind != Str.ofString b.kind) = false) (hc : V.isC C a = true) (hC : C = 68 ∨ C = 89 ∨ C = 131 ∨ C = 152) : V.isC C b = true := by
  have e := kind_eq h
  have go : ∀ k : String, (∀ v, V.isC C v = (v.kind == k)) → V.isC C b = true := fun k q => by rw [q] at hc ⊢; rw [← e]; exact hc
  rcases hC with rfl | rfl | rfl | rfl
  · exact go "PATTERN" fun v => by cases v <;> rfl
  · exact go "EXPRESSION" fun v => by cases v <;> rfl
  · exact go "NAME" fun v => by cases v <;> rfl
  · exact go "NODE" fun v => by cases v <;> rfl
theorem V.twP {a b : V} (h : (Str.ofString a.kind != Str.ofString b.kind) = false) (hp : a.plain = true) : b.plain = true := by
  have e := kind_eq h
  cases a <;> cases b <;> first | rfl | (cases hp; done) | (dsimp only [V.kind] at e; exact absurd e (by decide))
theorem same_node {j k : Int} : (V.node j).same (V.node k) = (j == k) := by
  rw [same_told (by dsimp only [V.kind]; decide +kernel)]
  simp [V.told, PySem.Spec.same]
theorem same_name {j k : Str} : (V.name j).same (V.name k) = (j == k) := by
  rw [same_told (by dsimp only [V.kind]; decide +kernel)]
  simp [V.told, PySem.Spec.same]
theorem V.noneOf {v : V} (h1 : v.plain = false) (h3 : V.isC 68 v = false) (h4 : V.isC 152 v = false) (h5 : V.isC 131 v = false) (h6 : V.isC 89 v = false) : False := by
  cases v <;> first | (cases h1; done) | (cases h3; done) | (cases h4; done) | (cases h5; done) | (cases h6; done)

end

section
section
local macro_rules | `(tactic| k_steps) => steps [] ["pyIter _", "compareOp CmpOp.Eq:0 Value.ref:1 Value.ref:1"]
theorem c_same (w : World) (v1 v2 : V) (val1 val2 : Value) (o1 : v1.ok) (o2 : v2.ok) :
    Tells w 650 700 240 [val1, val2] (fun ns => Bears w ns v1 val1 ∧ Bears w ns v2 val2) (fun ns r ns' => r = .bool (v1.same v2) ∧ ns' = ns) := by
  unfold Tells
  k_fill
  intro cn sn sg sc sm a ccd cl outer A₀ base h₀ L m news s Q E mean mg mb B F X N T hpre hret
  obtain ⟨hb1, hb2⟩ := hpre
  k_steps
  · exact hret _ _ _ _ (by with_reducible assumption) (by with_reducible assumption) ⟨by rw [same_ne (by with_reducible assumption)], rfl⟩
  · refine' eq_told ?N (ToldIs.plain (by with_reducible assumption) hb1) (ToldIs.plain (V.twP (by with_reducible assumption) (by with_reducible assumption)) hb2) o1 o2 (by with_reducible assumption) (by k_units) ?_
    case N => k_asm
    k_steps
    exact hret _ _ _ _ (by with_reducible assumption) (by with_reducible assumption) ⟨rfl, rfl⟩
  · refine hb2.opNode (V.twC (by with_reducible assumption) (by with_reducible assumption) (by decide)) fun k p' d' q1' q2' q3' q4' q5' q6' e2 u2 mp' md' => ?_
    refine hb1.opNode (by with_reducible assumption) fun j p d q1 q2 q3 q4 q5 q6 e1 u1 mp md => ?_
    subst u1 u2
    clear hb1 hb2
    k_steps
    exact hret _ _ _ _ (by with_reducible assumption) (by with_reducible assumption) ⟨by rw [e1, e2, same_node], rfl⟩
  · refine hb2.opName (V.twC (by with_reducible assumption) (by with_reducible assumption) (by decide)) fun k p' d' q1' q2' q3' q4' q5' e2 u2 mp' md' => ?_
    refine hb1.opName (by with_reducible assumption) fun j p d q1 q2 q3 q4 q5 e1 u1 mp md => ?_
    subst u1 u2
    clear hb1 hb2
    k_steps
    · exact hret _ _ _ _ (by with_reducible assumption) (by with_reducible assumption) ⟨by rw [e1, e2, same_name, show (j == k) = false from by simpa [bne] using (by with_reducible assumption : (j != k) = true)], rfl⟩
    · exact hret _ _ _ _ (by with_reducible assumption) (by with_reducible assumption) ⟨by rw [e1, e2, same_name, show (j == k) = true from by simpa [bne] using (by with_reducible assumption : (j != k) = false)], rfl⟩
  · refine hb2.opPat (V.twC (C := 68) (by with_reducible assumption) (by with_reducible assumption) (by decide)) fun k p' d' tp' q1' q2' q3' c' e2 u2 mp' md' mt' => ?_
    refine hb1.opPat (by with_reducible assumption) fun j p d tp q1 q2 q3 c e1 u1 mp md mt => ?_
    subst u1 u2
    clear hb1 hb2
    k_steps
    refine' eq_told (v1 := .pat j) (v2 := .pat k) ?N ⟨_, _, _, _, rfl, mt⟩ ⟨_, _, _, _, rfl, mt'⟩ (e1 ▸ o1) (e2 ▸ o2) (by rw [← e1, ← e2]; with_reducible assumption) (by k_units) ?_
    case N => k_asm
    k_steps
    exact hret _ _ _ _ (by with_reducible assumption) (by with_reducible assumption) ⟨by rw [e1, e2], rfl⟩
  · refine hb2.opDly (V.twC (C := 89) (by with_reducible assumption) (by with_reducible assumption) (by decide)) fun k p' d' tp' q1' q2' q3' c' e2 u2 mp' md' mt' => ?_
    refine hb1.opDly (by with_reducible assumption) fun j p d tp q1 q2 q3 c e1 u1 mp md mt => ?_
    subst u1 u2
    clear hb1 hb2
    k_steps
    refine' eq_told (v1 := .dly j) (v2 := .dly k) ?N ⟨_, _, _, _, rfl, mt⟩ ⟨_, _, _, _, rfl, mt'⟩ (e1 ▸ o1) (e2 ▸ o2) (by rw [← e1, ← e2]; with_reducible assumption) (by k_units) ?_
    case N => k_asm
    k_steps
    all_goals exact hret _ _ _ _ (by with_reducible assumption) (by with_reducible assumption) ⟨by first | (rw [e1, e2]; done) | (rw [e1, e2]; exact congrArg Value.bool (Eq.symm (by with_reducible assumption))), rfl⟩
  · exact (V.noCode (by with_reducible assumption)).elim
  · exact (V.noneOf (by with_reducible assumption) (by with_reducible assumption) (by with_reducible assumption) (by with_reducible assumption) (by with_reducible assumption)).elim
end

end

section
noncomputable def V.keyed (v : V) : Bool := v.plain || V.isC 152 v
noncomputable def V.key : V → PyData
  | .node j => .tuple [.str (Str.ofString "HOLDER"), .int j]
  | v => .tuple [.str (Str.ofString v.kind), v.told]
noncomputable def KeyIs (ns : List (Addr × Obj)) (r : Value) (v : V) : Prop :=
  ∃ p c, r = .ref p ∧ ((∃ t tv, v.plain = true ∧ (p, tupO [.str (Str.ofString v.kind) t, tv] c) ∈ ns ∧ ToldIs ns tv v) ∨ ∃ j t t2, v = .node j ∧ (p, tupO [.str (Str.ofString "HOLDER") t, .int j t2] c) ∈ ns)
theorem KeyIs.more {ns ns' : List (Addr × Obj)} {r : Value} {v : V} (k : ∀ p ∈ ns, p ∈ ns') (h : KeyIs ns r v) : KeyIs ns' r v := by
  obtain ⟨p, c, e, h⟩ := h
  refine ⟨p, c, e, ?_⟩
  rcases h with ⟨t, tv, h1, h2, h3⟩ | ⟨j, t, t2, h1, h2⟩
  · exact .inl ⟨t, tv, h1, k _ h2, h3.more k⟩
  · exact .inr ⟨j, t, t2, h1, k _ h2⟩
theorem KeyIs.reads {h₀ h : Heap} {L : Addr} {ns : List (Addr × Obj)} {r : Value} {v : V} (N : News h₀ L h ns) (H : KeyIs ns r v) : ∃ as, Reads h r v.key as := by
  obtain ⟨p, c, rfl, H⟩ := H
  rcases H with ⟨t, tv, h1, h2, h3⟩ | ⟨j, t, t2, rfl, h2⟩
  · obtain ⟨as, r⟩ := h3.reads N
    obtain ⟨bs, R⟩ := tup_reads N h2 (.str _ _) r
    exact ⟨bs, by cases v <;> first | exact R | (cases h1; done)⟩
  · exact tup_reads N h2 (.str _ _) (.int _ _)
theorem V.key_shaped {v : V} (hv : v.ok) : PySem.SeqAt.shaped v.key = true := by
  have h4 : PyData.strOk (Str.ofString "HOLDER") = true := by decide +kernel
  cases v with
  | node j =>
    unfold PySem.SeqAt.shaped
    rw [Bool.and_eq_true]
    constructor
    · simp only [V.key, PyData.canLay0, PyData.canLayAll0, h4, Bool.and_true]
    · simp [V.key, PyData.depth, PyData.depthAll]
  | int n => exact V.shaped (.int n) hv
  | str n => exact V.shaped (.str n) hv
  | pat n => exact V.shaped (.pat n) hv
  | dly n => exact V.shaped (.dly n) hv
  | name n => exact V.shaped (.name n) hv
theorem key_same {a b : V} (ha : a.keyed = true) (hb : b.keyed = true) : PySem.Spec.same a.key b.key = a.same b := by
  cases a <;> cases b <;> first
    | (cases ha; done)
    | (cases hb; done)
    | rfl
    | (simp only [V.same, V.data, V.key, V.told, V.kind, PySem.Spec.same, PySem.Spec.sameAll, Bool.and_true, beq_self_eq_true, Bool.true_and]; done)
    | (simp only [V.same, V.data, V.key, V.told, V.kind, PySem.Spec.same, PySem.Spec.sameAll, Bool.and_true, Bool.and_false])
theorem eq_keys {prog : Program} {w : World} {A : Around} {E : Value → Shared → Prop} {s : Shared} {h₀ : Heap} {L : Addr} {ns : List (Addr × Obj)} {v1 v2 : V} {r1 r2 : Value} {Q : Value → Shared → Prop}
    (N : News h₀ L s.heap ns) (H1 : KeyIs ns r1 v1) (H2 : KeyIs ns r2 v2) (o1 : v1.ok) (o2 : v2.ok) (k1 : v1.keyed = true) (k2 : v2.keyed = true) (hu : A.units + 64 < cLine)
    (h : Q (.bool (v1.same v2)) s) : wpAny (model prog w) A (compareOp .Eq r1 r2) Q E s := by
  obtain ⟨as, q1⟩ := H1.reads N
  obtain ⟨bs, q2⟩ := H2.reads N
  exact eq_dataH_same q1 q2 (V.key_shaped o1) (V.key_shaped o2) hu (by cases v1 <;> cases v2 <;> rfl) (by rw [key_same k1 k2]; exact h)
theorem V.keyedNo {v : V} (hk : v.keyed = true) (h1 : v.plain = false) (h2 : V.isC 152 v = false) : False := by
  unfold V.keyed at hk
  rw [h1, h2] at hk
  cases hk
section
theorem c_key (w : World) (v : V) (val : Value) (hk : v.keyed = true) :
    Tells w 650 700 247 [val] (fun ns => Bears w ns v val) (fun ns r ns' => KeyIs ns' r v ∧ ∀ p ∈ ns, p ∈ ns') := by
  unfold Tells
  k_fill
  intro cn sn sg sc sm a ccd cl outer A₀ base h₀ L m news s Q E mean mg mb B F X N T hb hret
  k_steps
  · exact hret _ _ _ _ (by with_reducible assumption) (by with_reducible assumption) ⟨⟨_, _, rfl, .inl ⟨_, _, (by with_reducible assumption), .head _, ToldIs.plain (by with_reducible assumption) hb⟩⟩, fun p hp => .tail _ hp⟩
  · refine hb.opNode (by with_reducible assumption) fun j p d q1 q2 q3 q4 q5 q6 e u mp md => ?_
    subst u
    clear hb
    k_steps
    exact hret _ _ _ _ (by with_reducible assumption) (by with_reducible assumption) ⟨⟨_, _, rfl, .inr ⟨_, _, _, e, .head _⟩⟩, fun p hp => .tail _ hp⟩
  · exact (V.keyedNo hk (by with_reducible assumption) (by with_reducible assumption)).elim
  · exact (V.keyedNo hk (by with_reducible assumption) (by with_reducible assumption)).elim
end

end

section
theorem item_some {prog : Program} {w : World} {A : Around} {E : Value → Shared → Prop} {s : Shared} {h₀ : Heap} {L l : Addr} {news : List (Addr × Obj)} {value slice : PySem.Expr} {vs : Array Value} {k : Int} {u : Tok} {m : Nat} {Q : Value → Shared → Prop}
    (N : News h₀ L s.heap news) (hm : (l, W.listOf vs m) ∈ news) (h0 : 0 ≤ k) (hk : k < (vs.size : Int)) (hz : vs.size ≤ 40) (h : ∀ x, x ∈ vs.toList → Q x s)
    (hs : subscripted slice false (.ref l) (.int k u) = operate [.ref l, .int k u] (getItem (.ref l) (.int k u)) := by with_unfolding_all rfl) :
    wpAny (model prog w) A (subscriptTail value slice (.ref l) (.int k u)) Q E s := by
  have hlt : k.toNat < vs.size := by omega
  have e : vs[k.toNat]? = some vs[k.toNat] := Array.getElem?_eq_getElem hlt
  have hl := N.isList hm
  exact tail_any hl.typeIs slot_list_getitem.lookup (wpAny_getItem_list hl h0 (by omega) e (h _ (by simp))) hs
theorem decs_dig : ∀ (k n : Nat), n < 10 ^ (k + 1) → ∀ c ∈ decs n, c < 128 := by
  intro k
  induction k with
  | zero =>
    intro n h c hc
    rw [decs, if_pos (by simpa using h)] at hc
    have := List.mem_singleton.mp hc
    omega
  | succ k ih =>
    intro n h c hc
    rw [decs] at hc
    split at hc
    · have := List.mem_singleton.mp hc
      omega
    · rcases List.mem_append.mp hc with hc | hc
      · exact ih (n / 10) (by rw [Nat.pow_succ] at h; omega) c hc
      · have := List.mem_singleton.mp hc
        omega
theorem writeT_ok {n : Int} (h : n.natAbs < 10 ^ 13) : V.ok (.str (writeT n)) := by
  refine ⟨writeT_len h, fun c hc => ?_⟩
  unfold writeT at hc
  split at hc
  · have z : c ∈ 45 :: decs n.natAbs := by simpa using hc
    rcases List.mem_cons.mp z with rfl | z
    · decide
    · exact decs_dig 12 _ h c z
  · exact decs_dig 12 _ h c (by simpa using hc)
theorem mul5 {n : Int} (h0 : 0 ≤ n) (h8 : n < 8) : V.ok (.str (Txt.mul (Str.ofString "0") n ++ Str.ofString "5")) := by
  obtain ⟨k, rfl⟩ := Int.eq_ofNat_of_zero_le h0
  exact (by decide +kernel : ∀ k : Fin 8, (Txt.mul (Str.ofString "0") (k.val : Int) ++ Str.ofString "5").length ≤ 100 ∧ ∀ c ∈ (Txt.mul (Str.ofString "0") (k.val : Int) ++ Str.ofString "5").cps.toList, c < 128) ⟨k, Int.ofNat_lt.mp h8⟩
theorem one_sign {j : Int} (h0 : 0 ≤ j) (h6 : j < 6) : (Txt.item (Str.ofString "ab+-01") j).length = 1 ∧ ∀ c ∈ (Txt.item (Str.ofString "ab+-01") j).cps.toList, c < 128 := by
  obtain ⟨k, rfl⟩ := Int.eq_ofNat_of_zero_le h0
  exact (by decide +kernel : ∀ k : Fin 6, (Txt.item (Str.ofString "ab+-01") (k.val : Int)).length = 1 ∧ ∀ c ∈ (Txt.item (Str.ofString "ab+-01") (k.val : Int)).cps.toList, c < 128) ⟨k, Int.ofNat_lt.mp h6⟩
theorem join_all {P : Nat → Prop} : ∀ (zs : List Str), (∀ z ∈ zs, ∀ c ∈ z.cps.toList, P c) → ∀ c ∈ (Str.join (Str.ofString "") zs).cps.toList, P c := by
  intro zs
  induction zs with
  | nil => intro _ c hc; cases hc
  | cons z zs ih =>
    intro h c hc
    cases zs with
    | nil => exact h z (.head _) c hc
    | cons z' zs =>
      have e : (Str.join (Str.ofString "") (z :: z' :: zs)).cps = z.cps ++ (Str.ofString "").cps ++ (Str.join (Str.ofString "") (z' :: zs)).cps := rfl
      rw [e, Array.toList_append, Array.toList_append] at hc
      rcases List.mem_append.mp hc with hc | hc
      · rcases List.mem_append.mp hc with hc | hc
        · exact h z (.head _) c hc
        · cases hc
      · exact ih (fun y hy => h y (.tail _ hy)) c hc
theorem join_ok {zs : List Str} (hn : zs.length ≤ 100) (h : ∀ z ∈ zs, z.length = 1 ∧ ∀ c ∈ z.cps.toList, c < 128) : V.ok (.str (Txt.join (Str.ofString "") (zs.map fun a => a))) := by
  rw [List.map_id']
  refine ⟨?_, ?_⟩
  · rw [KT.join_ones zs fun z hz => (h z hz).1]; exact hn
  · show ∀ c ∈ (Builtin.Str.glued (Str.ofString "") zs).cps.toList, c < 128
    rw [StrLaws.glued_eq_join]
    exact join_all zs fun z hz => (h z hz).2
theorem nameN {n : Int} (h0 : 0 ≤ n) (h8 : n < 8) : V.ok (.name (Str.ofString "N" ++ Str.ofString (toString n))) := by
  obtain ⟨k, rfl⟩ := Int.eq_ofNat_of_zero_le h0
  exact (by decide +kernel : ∀ k : Fin 8, (Str.ofString "N" ++ Str.ofString (toString (k.val : Int))).length ≤ 100 ∧ ∀ c ∈ (Str.ofString "N" ++ Str.ofString (toString (k.val : Int))).cps.toList, c < 128) ⟨k, Int.ofNat_lt.mp h8⟩
open LCg in
/-- a comprehension whose turns change the ledger, by a word on its turns -/
theorem comp_ind {prog : Program} {w : World} {A : Around} {h₀ : Heap} {L : Addr} {m : Str → Option Value} {env : Env} {elt : Expr} {x : Str} {scope : Scope} {cl : List (Str × Addr)} {s : Shared} {S : List (Addr × Obj) → Prop} {P : Nat → Value → Prop} {Fin : List Value → List (Addr × Obj) → Prop}
    (J : Nat → List Value → List (Addr × Obj) → Prop) (n : Nat)
    (step : ∀ i ys nx v I oI C oC D m₂ h tk (E' : Value → Shared → Prop), i < n → J i ys nx → P i v → NsObj oC m₂ → m₂ x = some v → Fr h₀ L h m → News h₀ L h ((I, oI) :: (C, oC) :: (D, lst ys) :: nx) → Off3 I C D nx → ((@Ne Nat I C) ∧ (@Ne Nat I D) ∧ (@Ne Nat C D)) →
      wpAny (model prog w) A (eval elt (compEnvC scope cl C env)) (CompEnd h₀ L m { s with heap := h, toks := tk } I oI C oC D (lst ys) S (fun y nx' => J (i + 1) (ys ++ [y]) nx')) E' { s with heap := h, toks := tk })
    (fin : ∀ ys nx, J n ys nx → Fin ys nx) : ∀ k i ys nx, i + k = n → J i ys nx → CompRest prog w A h₀ L m env elt x scope cl s S P Fin k i ys nx := by
  intro k
  induction k with
  | zero =>
    intro i ys nx hi hJ
    obtain rfl : i = n := hi
    exact CompRest.zero (fin _ _ hJ)
  | succ k ih =>
    intro i ys nx hi hJ
    refine CompRest.succ fun v I oI C oC D m₂ h tk E' hP hC hx F N off ne => ?_
    refine wpAny_mono (step i ys nx v I oI C oC D m₂ h tk E' (by omega) hJ hP hC hx F N off ne) (fun y s₂ q => ?_) fun _ _ e => e
    obtain ⟨h', tk', nx', e, F', N', off', hS, hj⟩ := q
    exact ⟨h', tk', nx', e, F', N', off', hS, ih (i + 1) _ _ (by omega) hj⟩
theorem end_range {wd : Int} (h1 : 5 ≤ wd) (h2 : wd ≤ 40) : ∃ e : Int, (2 : Int) ^ (wd - 1).toNat = e ∧ 16 ≤ e ∧ e ≤ 549755813888 := by
  refine ⟨_, rfl, ?_, ?_⟩
  · have z : (2 : Nat) ^ 4 ≤ 2 ^ (wd - 1).toNat := Nat.pow_le_pow_right (by decide) (by omega)
    have y : ((2 ^ 4 : Nat) : Int) ≤ ((2 ^ (wd - 1).toNat : Nat) : Int) := Int.ofNat_le.mpr z
    rw [Int.natCast_pow] at y
    exact y
  · have z : (2 : Nat) ^ (wd - 1).toNat ≤ 2 ^ 39 := Nat.pow_le_pow_right (by decide) (by omega)
    have y : ((2 ^ (wd - 1).toNat : Nat) : Int) ≤ ((2 ^ 39 : Nat) : Int) := Int.ofNat_le.mpr z
    rw [Int.natCast_pow] at y
    exact y
section
local macro_rules | `(tactic| walk_at "call ref") => use9 375 "c_lwr" "___1" "Kp1o" true "t9 e9|e8" "e9 e8" true
local macro_rules | `(tactic| k_steps) => steps [358] ["pyIter _", "subscriptTail _ _ Value.ref:1 Value.int:2", "eval Expr.ListComp:4 _"]
theorem ve_in {e k : Int} (h : 16 ≤ e) (a : -16 ≤ k) (b : k < 16) : -e ≤ k ∧ k < e := by omega
theorem ve_m {e : Int} (h : 16 ≤ e) : -e ≤ e - 1 ∧ e - 1 < e := by omega
theorem ve_n {e : Int} (h : 16 ≤ e) : -e ≤ 0 - e ∧ 0 - e < e := by omega
theorem ve_f {e x : Int} (h : 16 ≤ e) (f : 0 ≤ x ∧ x < e) : -e ≤ x ∧ x < e := by omega
theorem ve_pos {e : Int} (h : 16 ≤ e) : 0 < e := by omega
theorem ve_abs {e n : Int} (h : e ≤ 549755813888) (a : -e ≤ n) (b : n < e) : n.natAbs < 10 ^ 13 := by omega
theorem ve_20 {B : Int} : B + 1 + 1 ≤ B + 20 := by omega
theorem ve_d {B : Int} (h : B ≤ 999000) : B ≤ 1000000 ∧ B + 1 ≤ 1000000 := by omega
theorem val_b {B n : Int} {i : Nat} (hB : B ≤ 999000) (h8 : n < 8) (hi : i < (n - 0).toNat) : B + 2 + (i : Int) ≤ 1000000 := by omega
theorem val_c {B n : Int} (h8 : n < 8) : B + 2 + ((n - 0).toNat : Int) ≤ B + 20 := by omega
theorem Bears.ofPat {w : World} {ns : List (Addr × Obj)} {p d tp : Addr} {t1 t2 t3 : Tok} {c : Nat} {j : Int} (a : (p, instObj 68 d) ∈ ns) (b : (d, dictOf [ent w "node" t1 (.ref tp)] 1) ∈ ns) (e : (tp, tupO [.str (Str.ofString "len") t2, .int j t3] c) ∈ ns) : Bears w ns (.pat j) (.ref p) :=
  ⟨_, _, _, _, _, _, _, rfl, a, b, e⟩
theorem Bears.ofDly {w : World} {ns : List (Addr × Obj)} {p d tp : Addr} {t1 t2 t3 : Tok} {c : Nat} {j : Int} (a : (p, instObj 89 d) ∈ ns) (b : (d, dictOf [ent w "tree" t1 (.ref tp)] 1) ∈ ns) (e : (tp, tupO [.str (Str.ofString "whole") t2, .int j t3] c) ∈ ns) : Bears w ns (.dly j) (.ref p) :=
  ⟨_, _, _, _, _, _, _, rfl, a, b, e⟩
theorem Bears.ofName {w : World} {ns : List (Addr × Obj)} {p d : Addr} {t1 t2 t3 t4 t5 : Tok} {x : Str} (a : (p, instObj 131 d) ∈ ns) (b : (d, dictOf [ent w "kind" t1 (.str (Str.ofString "var") t4), ent w "owner" t2 .none, ent w "key" t3 (.str x t5)] 3) ∈ ns) : Bears w ns (.name x) (.ref p) :=
  ⟨_, _, _, _, _, _, _, rfl, a, b⟩
theorem Bears.ofNode {w : World} {ns : List (Addr × Obj)} {p d : Addr} {t1 t2 t3 t4 t5 t6 : Tok} {j : Int} (a : (p, instObj 152 d) ∈ ns) (b : (d, dictOf [ent w "word" t1 (.str (Str.ofString "NODE") t4), ent w "number" t2 (.int j t5), ent w "mark" t3 (.int 0 t6)] 3) ∈ ns) : Bears w ns (.node j) (.ref p) :=
  ⟨_, _, _, _, _, _, _, _, rfl, a, b⟩
/-- what _law_value gives back -/
theorem val_post {w : World} {bv val : Value} {bl cl0 p : Addr} {B B2 wd : Int} {old mid ns' : List (Addr × Obj)} {t : Tok} {c : Nat} (v : V) (hm : (p, tupO [val, .str (Str.ofString v.kind) t] c) ∈ ns') (hv : Bears w ns' v val) (ok : v.ok) (fit : ∀ n, v = .int n → fitsB n wd = true)
    (hB : B2 ≤ B + 20) (hb : BoxAt B2 mid bv bl cl0) (dk : ∀ p ∈ old, p.1 ≠ bl → p ∈ mid) (up : ∀ p ∈ mid, p ∈ ns') :
    (∃ v val q t c, Value.ref p = .ref q ∧ (q, tupO [val, .str (Str.ofString v.kind) t] c) ∈ ns' ∧ Bears w ns' v val ∧ v.ok ∧ ∀ n, v = .int n → fitsB n wd = true) ∧ BoxAt (B + 20) ns' bv bl cl0 ∧ ∀ p ∈ old, p.1 ≠ bl → p ∈ ns' :=
  ⟨⟨v, val, p, t, c, rfl, hm, hv, ok, fit⟩, BoxAt.up hB (hb.more up), fun q hq hn => up q (dk q hq hn)⟩
theorem c_value (w : World) (bv : Value) (bl cl0 : Addr) (B wd : Int) (t0 : Tok) (h1 : 5 ≤ wd) (h2 : wd ≤ 40) (hB : B ≤ 999000) :
    Tells w 640 650 380 [bv, .int wd t0] (fun ns => BoxAt B ns bv bl cl0)
      (fun ns r ns' => (∃ v val p t c, r = .ref p ∧ (p, tupO [val, .str (Str.ofString v.kind) t] c) ∈ ns' ∧ Bears w ns' v val ∧ v.ok ∧ ∀ n, v = .int n → fitsB n wd = true) ∧ BoxAt (B + 20) ns' bv bl cl0 ∧ ∀ p ∈ ns, p.1 ≠ bl → p ∈ ns') := by
  unfold Tells
  k_fill
  intro cn sn sg sc sm a ccd cl outer A₀ base h₀ L m news s Q E mean mg mb B1 F X N T hpre hret
  refine wpAny_call ?_
  k_enter
  rename_i g' L' h' tk' FG' F' B' X' T' l1 o1 d1 N'
  have dv : o1.data = .cell (some bv) := d1
  clear d1
  have hcb : L' + 1 ≠ bl := by
    obtain ⟨i, hh, t1, t2, n, vs, xs, mm, e, hm, _⟩ := hpre
    exact Nat.ne_of_gt (Nat.lt_succ_of_lt (l1 _ hm))
  have hbx : BoxAt B ((L' + 1, o1) :: news) bv bl cl0 := hpre.more fun p hp => .tail _ hp
  have mc : (L' + 1, o1) ∈ (L' + 1, o1) :: news := .head _
  have hk0 : ∀ p ∈ news, p ∈ (L' + 1, o1) :: news := fun p hp => .tail _ hp
  generalize hns : ((L' + 1, o1) :: news : List (Addr × Obj)) = ns at *
  clear hns
  k_steps
  try k_fold
  refine' useDr (c_draw w bv bl cl0 _ _ _ ?q1 ?q2 ?q3) hbx ?_
  case q1 => exact (ve_d hB).1
  case q2 => decide
  case q3 => decide
  intro f dt n1 h9 tk9 f1 f2 F9 N9 hbx1 dk
  replace mc := dk _ mc hcb
  replace dk : ∀ p ∈ news, p.1 ≠ bl → p ∈ n1 := fun p hp hn => dk p (hk0 p hp) hn
  clear hbx hk0
  k_steps
  try k_fold
  refine' useDr (c_draw w bv bl cl0 _ _ _ ?q1 ?q2 ?q3) hbx1 ?_
  case q1 => exact (ve_d hB).2
  case q2 => decide
  case q3 => decide
  intro n dt n2 h9 tk9 n01 n02 F9 N9 hbx dk2
  replace mc := dk2 _ mc hcb
  replace dk : ∀ p ∈ news, p.1 ≠ bl → p ∈ n2 := fun p hp hn => dk2 p (dk p hp hn) hn
  clear hbx1 dk2 N'
  try clear F'
  repeat' ((fail_if_success (with_reducible show wpAny _ _ (exec (Stmt.If _ _ _ _) _) _ _ _)); walk_at "my step")
  (rename Fr _ _ _ _ => lF)
  refine hideG fun H9 hG9 => ?_
  obtain ⟨e, he, e1, e2⟩ := end_range h1 h2
  refine hG9 ?_
  clear hG9 H9
  rw [he] at lF
  k_steps
  · refine' item_some ?N ?m n01 ?hk ?hz ?_ ?hs
    case N => k_asm
    case m => k_mem
    case hk => exact n02
    case hz => exact Nat.le_of_ble_eq_true rfl
    case hs => with_unfolding_all rfl
    intro x hx
    refine hideG fun H9 hG9 => ?_
    obtain ⟨n', t', rfl, q1, q2⟩ : ∃ n' t', x = .int n' t' ∧ -e ≤ n' ∧ n' < e := by
      have f100 := fmod_range (a := 100) (b := e) (ve_pos e1)
      simp only [List.mem_cons, List.not_mem_nil, or_false] at hx
      rcases hx with rfl | rfl | rfl | rfl | rfl | rfl | rfl | rfl
      all_goals exact ⟨_, _, rfl, by first | exact ve_in e1 (by decide) (by decide) | exact ve_m e1 | exact ve_n e1 | exact ve_f e1 f100⟩
    refine hG9 ?_
    clear hG9 H9
    k_steps
    (rename News _ _ _ (_ :: _) => lN)
    exact hret _ _ _ _ (by with_reducible assumption) lN (val_post (.int n') (.head _) ⟨_, rfl⟩ (ve_abs e2 q1 q2) (by intro m hm; cases hm; unfold fitsB; rw [he]; simp [q1, q2]) ve_20 hbx dk (fun p hp => by walk_at "my up"))
  · refine' item_some ?N ?m n01 ?hk ?hz ?_ ?hs
    case N => k_asm
    case m => k_mem
    case hk => exact n02
    case hz => exact Nat.le_of_ble_eq_true rfl
    case hs => with_unfolding_all rfl
    intro x hx
    refine hideG fun H9 hG9 => ?_
    obtain ⟨s', t', rfl, hs'⟩ : ∃ s' t', x = .str s' t' ∧ V.ok (.str s') := by
      simp only [List.mem_cons, List.not_mem_nil, or_false] at hx
      rcases hx with rfl | rfl | rfl | rfl | rfl | rfl | rfl | rfl
      all_goals first | exact ⟨_, _, rfl, writeT_ok (by omega)⟩ | exact ⟨_, _, rfl, mul5 n01 n02⟩ | exact ⟨_, _, rfl, by decide +kernel, by decide +kernel⟩
    refine hG9 ?_
    clear hG9 H9
    k_steps
    (rename News _ _ _ (_ :: _) => lN)
    exact hret _ _ _ _ (by with_reducible assumption) lN (val_post (.str s') (.head _) ⟨_, rfl⟩ hs' (by intro m hm; cases hm) ve_20 hbx dk (fun p hp => by walk_at "my up"))
  · refine' item_some ?N ?m n01 ?hk ?hz ?_ ?hs
    case N => k_asm
    case m => k_mem
    case hk => exact n02
    case hz => exact Nat.le_of_ble_eq_true rfl
    case hs => with_unfolding_all rfl
    intro x hx
    refine hideG fun H9 hG9 => ?_
    obtain ⟨s', t', rfl, hs'⟩ : ∃ s' t', x = .str s' t' ∧ V.ok (.str s') := by
      simp only [List.mem_cons, List.not_mem_nil, or_false] at hx
      rcases hx with rfl | rfl | rfl | rfl | rfl | rfl | rfl | rfl
      all_goals exact ⟨_, _, rfl, by decide +kernel, by decide +kernel⟩
    refine hG9 ?_
    clear hG9 H9
    k_steps
    (rename News _ _ _ (_ :: _) => lN)
    exact hret _ _ _ _ (by with_reducible assumption) lN (val_post (.str s') (.head _) ⟨_, rfl⟩ hs' (by intro m hm; cases hm) ve_20 hbx dk (fun p hp => by walk_at "my up"))
  · refine' LCg.ListComp_U (F₀ := ?F) (by rfl) (by decide) (by rfl) (by decide) (by rfl) ?_
    case F => k_asm
    repeat' ((fail_if_success (with_reducible show LCg.CompSrc _ _ _ _ _ _ _ _ _ _ _ _ _ _)); walk_at "my step")
    refine' LCg.CompSrc.range (n := (n - 0).toNat) rfl ?F ?N (by with_reducible assumption) (small_one (by decide) (by decide) (by omega) (by omega)) (rangeSize_nat _ _) (by rw [PySem.sizeLine_eq]; omega) ?_
    case F => k_asm
    case N => k_asm
    intro g9
    refine comp_ind (fun i ys nx => ∃ zs : List Str, StrsAre ys zs ∧ zs.length = i ∧ (∀ z ∈ zs, z.length = 1 ∧ ∀ c ∈ z.cps.toList, c < 128) ∧ BoxAt (B + 2 + i) nx bv bl cl0 ∧ (L' + 1, o1) ∈ nx ∧ ∀ p ∈ news, p.1 ≠ bl → p ∈ nx) (n - 0).toNat ?_ ?_ (n - 0).toNat 0 [] _ (by omega) ⟨[], .nil, rfl, fun _ h => (List.not_mem_nil h).elim, BoxAt.up (by omega) (hbx.more fun p hp => .tail _ hp), .tail _ mc, fun p hp hn => .tail _ (dk p hp hn)⟩
    · intro i ys nx v I oI C oC D m₂ h tk E' hi hJ hP hC hx F1 N1 off ne
      refine hideG fun H9 hG9 => ?_
      obtain ⟨zs, z1, z2, z3, b1, b2, b3⟩ := hJ
      refine hG9 ?_
      clear hG9 H9
      obtain ⟨t, rfl⟩ := hP
      have bb : BoxAt (B + 2 + i) ((I, oI) :: (C, oC) :: (D, LCg.lst ys) :: nx) bv bl cl0 := b1.more fun p hp => .tail _ (.tail _ (.tail _ hp))
      refine hideG fun H9 hG9 => ?_
      obtain ⟨i0, hh0, t10, t20, nn0, vs0, xs0, m0, eb0, hb0, hc0, _⟩ := b1
      refine hG9 ?_
      clear hG9 H9
      have oB := LCg.Off3.mem off _ hb0
      have oC0 := LCg.Off3.mem off _ hc0
      have oM := LCg.Off3.mem off
      k_steps
      try k_fold
      refine' useDr (c_draw w bv bl cl0 _ _ _ ?q1 ?q2 ?q3) bb ?_
      case q1 => exact val_b hB n02 hi
      case q2 => decide
      case q3 => decide
      intro j jt n9 h9 tk9 j1 j2 F9 N9 bb9 dk9
      repeat' ((fail_if_success (with_reducible show LCg.CompEnd _ _ _ _ _ _ _ _ _ _ _ _ _ _)); walk_at "my step")
      have hz := one_sign j1 j2
      refine LCg.CompEnd.intro F9 N9 (except I (except C (except D n9))) ?_ ?_ trivial ⟨zs ++ [Txt.item (Str.ofString "ab+-01") j], kct_snoc z1, by simp [z2], ?_, ?_, ?_, ?_⟩
      · intro p hp
        rcases List.mem_cons.mp hp with rfl | hp
        · exact dk9 _ (.head _) (Ne.symm oB.1)
        rcases List.mem_cons.mp hp with rfl | hp
        · exact dk9 _ (.tail _ (.head _)) (Ne.symm oB.2.1)
        rcases List.mem_cons.mp hp with rfl | hp
        · exact dk9 _ (.tail _ (.tail _ (.head _))) (Ne.symm oB.2.2)
        exact (mem_except.mp (mem_except.mp (mem_except.mp hp).1).1).1
      · exact LCg.Off3.of fun p hp => ⟨(mem_except.mp hp).2, (mem_except.mp (mem_except.mp hp).1).2, (mem_except.mp (mem_except.mp (mem_except.mp hp).1).1).2⟩
      · intro z hz'
        rcases List.mem_append.mp hz' with h | h
        · exact z3 z h
        · rw [List.mem_singleton.mp h]; exact hz
      · refine (BoxAt.up (by omega) bb9).sub fun p hp hq => mem_except.mpr ⟨mem_except.mpr ⟨mem_except.mpr ⟨hp, ?_⟩, ?_⟩, ?_⟩
        · rcases hq with e | e
          · rw [e]; exact oB.2.2
          · rw [e]; exact oC0.2.2
        · rcases hq with e | e
          · rw [e]; exact oB.2.1
          · rw [e]; exact oC0.2.1
        · rcases hq with e | e
          · rw [e]; exact oB.1
          · rw [e]; exact oC0.1
      · exact mem_except.mpr ⟨mem_except.mpr ⟨mem_except.mpr ⟨dk9 _ (.tail _ (.tail _ (.tail _ b2))) hcb, (oM _ b2).2.2⟩, (oM _ b2).2.1⟩, (oM _ b2).1⟩
      · exact fun p hp hn => mem_except.mpr ⟨mem_except.mpr ⟨mem_except.mpr ⟨dk9 _ (.tail _ (.tail _ (.tail _ (b3 p hp hn)))) hn, (oM _ (b3 p hp hn)).2.2⟩, (oM _ (b3 p hp hn)).2.1⟩, (oM _ (b3 p hp hn)).1⟩
    · intro ys nx hJ
      refine hideG fun H9 hG9 => ?_
      obtain ⟨zs, z1, z2, z3, b1, b2, b3⟩ := hJ
      refine hG9 ?_
      clear hG9 H9
      intro D h tk F1 N1 off
      have hc1 : CarriedAll ys (zs.map fun a => PyData.str ((fun a : Str => a) a)) := z1.carried
      repeat' ((fail_if_success (with_reducible show wpAny _ _ (call (Value.builtin "str.join") _) _ _ _)); walk_at "my step")
      refine KT.join_1 (N1.isList (.head _)) hc1 (fun a ha => (z3 a ha).1) (by omega) ?_
      intro t8 k8 e8
      k_steps
      (rename News _ _ _ (_ :: _) => lN)
      have ok : V.ok (.str (Txt.join (Str.ofString "") (zs.map fun a => a))) := join_ok (by omega) z3
      exact hret _ _ _ _ (by with_reducible assumption) lN (val_post (.str _) (.head _) ⟨_, rfl⟩ ok (by intro m hm; cases hm) (val_c n02) b1 b3 (fun p hp => by walk_at "my up"))
  · (rename News _ _ _ (_ :: _) => lN)
    exact hret _ _ _ _ (by with_reducible assumption) lN (val_post (.pat n) (.head _) (Bears.ofPat (by walk_at "my mem") (by walk_at "my mem") (by walk_at "my mem")) trivial (by intro m hm; cases hm) ve_20 hbx dk (fun p hp => by walk_at "my up"))
  · (rename News _ _ _ (_ :: _) => lN)
    exact hret _ _ _ _ (by with_reducible assumption) lN (val_post (.name (Str.ofString "N" ++ Str.ofString (toString n))) (.head _) (Bears.ofName (by walk_at "my mem") (by walk_at "my mem")) (nameN n01 n02) (by intro m hm; cases hm) ve_20 hbx dk (fun p hp => by walk_at "my up"))
  · (rename News _ _ _ (_ :: _) => lN)
    exact hret _ _ _ _ (by with_reducible assumption) lN (val_post (.dly n) (.head _) (Bears.ofDly (by walk_at "my mem") (by walk_at "my mem") (by walk_at "my mem")) trivial (by intro m hm; cases hm) ve_20 hbx dk (fun p hp => by walk_at "my up"))
  · (rename News _ _ _ (_ :: _) => lN)
    exact hret _ _ _ _ (by with_reducible assumption) lN (val_post (.node (n + 1)) (.head _) (Bears.ofNode (by walk_at "my mem") (by walk_at "my mem")) trivial (by intro m hm; cases hm) ve_20 hbx dk (fun p hp => by walk_at "my up"))
end

end

section
noncomputable def StCut (h₀ : Heap) (L : Addr) (m : Str → Option Value) (s : Shared) (P : List (Addr × Obj) → Prop) (f : Flow) (s' : Shared) : Prop :=
  f = .next ∧ ∃ h' tk ns, s' = { s with heap := h', toks := tk } ∧ Fr h₀ L h' m ∧ News h₀ L h' ns ∧ P ns
theorem StCut.intro {h₀ : Heap} {L : Addr} {m : Str → Option Value} {s : Shared} {P : List (Addr × Obj) → Prop} {h' : Heap} {tk : Nat} {ns : List (Addr × Obj)}
    (F : Fr h₀ L h' m) (N : News h₀ L h' ns) (hP : P ns) : StCut h₀ L m s P .next { s with heap := h', toks := tk } := ⟨rfl, h', tk, ns, rfl, F, N, hP⟩
theorem cut_st {M : Model} {A : Around} {E : Value → Shared → Prop} {s : Shared} {t : Sem Flow} {Q : Flow → Shared → Prop} {h₀ : Heap} {L : Addr} {m : Str → Option Value} (P : List (Addr × Obj) → Prop) (_F : Fr h₀ L s.heap m)
    (h : wpAny M A t (StCut h₀ L m s P) E s)
    (k : ∀ h' tk ns, Fr h₀ L h' m → News h₀ L h' ns → P ns → Q .next { s with heap := h', toks := tk }) : wpAny M A t Q E s := by
  refine wpAny_mono h (fun f s' q => ?_) fun _ _ e => e
  obtain ⟨rfl, h', tk, ns, rfl, F, N, hP⟩ := q
  exact k h' tk ns F N hP

end

section
theorem V.same_self (v : V) : v.same v = true := by
  cases v <;> simp [V.same, V.data, V.told, PySem.Spec.same, PySem.Spec.sameAll]
theorem ne_dataR {prog : Program} {w : World} {A : Around} {E : Value → Shared → Prop} {s : Shared} {a b : Value} {d : PyData} {Q : Value → Shared → Prop}
    (ra : ∃ as, Reads s.heap a d as) (rb : ∃ bs, Reads s.heap b d bs) (hs : PySem.SeqAt.shaped d = true) (hm : PySem.SeqAt.noMix d d = true) (he : PySem.Spec.same d d = true) (hu : A.units + 64 < cLine)
    (h : Q (.bool false) s) : wpAny (model prog w) A (compareOp .NotEq a b) Q E s := by
  obtain ⟨cs, R1⟩ := ra
  obtain ⟨ds, R2⟩ := rb
  exact ne_dataH_same R1 R2 hs hs hu hm (by rw [he]; exact h)
theorem eq_dataR {prog : Program} {w : World} {A : Around} {E : Value → Shared → Prop} {s : Shared} {a b : Value} {d : PyData} {Q : Value → Shared → Prop}
    (ra : ∃ as, Reads s.heap a d as) (rb : ∃ bs, Reads s.heap b d bs) (hs : PySem.SeqAt.shaped d = true) (hm : PySem.SeqAt.noMix d d = true) (he : PySem.Spec.same d d = true) (hu : A.units + 64 < cLine)
    (h : Q (.bool true) s) : wpAny (model prog w) A (compareOp .Eq a b) Q E s := by
  obtain ⟨cs, R1⟩ := ra
  obtain ⟨ds, R2⟩ := rb
  exact eq_dataH_same R1 R2 hs hs hu hm (by rw [he]; exact h)
theorem ne_chars {prog : Program} {w : World} {A : Around} {E : Value → Shared → Prop} {s : Shared} {h₀ : Heap} {L p1 p2 : Addr} {ns : List (Addr × Obj)} {x : Str} {t1 t2 t3 t4 : Tok} {c1 c2 : Nat} {Q : Value → Shared → Prop}
    (N : News h₀ L s.heap ns) (hm1 : (p1, tupO [.str (Str.ofString "chars") t1, .str x t2] c1) ∈ ns) (hm2 : (p2, tupO [.str (Str.ofString "chars") t3, .str x t4] c2) ∈ ns) (hx : PyData.strOk x = true) (hu : A.units + 64 < cLine)
    (h : Q (.bool false) s) : wpAny (model prog w) A (compareOp .NotEq (.ref p1) (.ref p2)) Q E s := by
  have ht : PyData.strOk (Str.ofString "chars") = true := by decide +kernel
  refine ne_dataR (tup_reads N hm1 (.str _ _) (.str _ _)) (tup_reads N hm2 (.str _ _) (.str _ _)) ?_ rfl ?_ hu h
  · unfold PySem.SeqAt.shaped
    simp [PyData.canLay0, PyData.canLayAll0, ht, hx, PyData.depth, PyData.depthAll]
  · simp [PySem.Spec.same, PySem.Spec.sameAll]
theorem ne_delay {prog : Program} {w : World} {A : Around} {E : Value → Shared → Prop} {s : Shared} {h₀ : Heap} {L p1 p2 p : Addr} {ns : List (Addr × Obj)} {j : Int} {t1 t2 t3 t4 : Tok} {c c1 c2 : Nat} {Q : Value → Shared → Prop}
    (N : News h₀ L s.heap ns) (hm1 : (p1, tupO [.str (Str.ofString "delay") t1, .ref p] c1) ∈ ns) (hm2 : (p2, tupO [.str (Str.ofString "delay") t2, .ref p] c2) ∈ ns) (hm : (p, tupO [.str (Str.ofString "whole") t3, .int j t4] c) ∈ ns) (hu : A.units + 64 < cLine)
    (h : Q (.bool false) s) : wpAny (model prog w) A (compareOp .NotEq (.ref p1) (.ref p2)) Q E s := by
  have ht : PyData.strOk (Str.ofString "delay") = true := by decide +kernel
  have hx : PyData.strOk (Str.ofString "whole") = true := by decide +kernel
  obtain ⟨as, r⟩ := tup_reads N hm (.str _ _) (.int _ _)
  refine ne_dataR (tup_reads N hm1 (.str _ _) r) (tup_reads N hm2 (.str _ _) r) ?_ rfl ?_ hu h
  · unfold PySem.SeqAt.shaped
    simp [PyData.canLay0, PyData.canLayAll0, ht, hx, PyData.depth, PyData.depthAll]
  · simp [PySem.Spec.same, PySem.Spec.sameAll]
theorem eq_var {prog : Program} {w : World} {A : Around} {E : Value → Shared → Prop} {s : Shared} {h₀ : Heap} {L p1 p2 : Addr} {ns : List (Addr × Obj)} {x : Str} {t1 t2 t3 t4 : Tok} {c1 c2 : Nat} {Q : Value → Shared → Prop}
    (N : News h₀ L s.heap ns) (hm1 : (p1, tupO [.str (Str.ofString "var") t1, .none, .str x t2] c1) ∈ ns) (hm2 : (p2, tupO [.str (Str.ofString "var") t3, .none, .str x t4] c2) ∈ ns) (hx : PyData.strOk x = true) (hu : A.units + 64 < cLine)
    (h : Q (.bool true) s) : wpAny (model prog w) A (compareOp .Eq (.ref p1) (.ref p2)) Q E s := by
  have ht : PyData.strOk (Str.ofString "var") = true := by decide +kernel
  refine eq_dataR ⟨_, Reads.tuple (N _ hm1).1 rfl rfl (ReadsAll.cons (.str _ _) (ReadsAll.cons .none (ReadsAll.cons (.str _ _) ReadsAll.nil)))⟩ ⟨_, Reads.tuple (N _ hm2).1 rfl rfl (ReadsAll.cons (.str _ _) (ReadsAll.cons .none (ReadsAll.cons (.str _ _) ReadsAll.nil)))⟩ ?_ rfl ?_ hu h
  · unfold PySem.SeqAt.shaped
    simp [PyData.canLay0, PyData.canLayAll0, ht, hx, PyData.depth, PyData.depthAll]
  · simp [PySem.Spec.same, PySem.Spec.sameAll]
theorem NamPost.some {w : World} {ns : List (Addr × Obj)} {val r : Value} {v : V} {x : Str} (ht : v.text = Option.some x) (h : NamPost w ns val r v) : (x = Str.ofString "" ∧ Fails ns r) ∨ (x ≠ Str.ofString "" ∧ Bears w ns (.name x) r) := by
  cases v with
  | int n => cases ht; exact .inr ⟨writeT_ne n, h⟩
  | str y =>
    cases ht
    dsimp only [NamPost] at h
    split at h
    · rename_i e; exact .inl ⟨e, h⟩
    · rename_i e; exact .inr ⟨e, h⟩
  | _ => cases ht
theorem NamPost.none {w : World} {ns : List (Addr × Obj)} {val r : Value} {v : V} (ht : v.text = Option.none) (h : NamPost w ns val r v) : Fails ns r ∨ ∃ y, v = .name y ∧ r = val := by
  cases v with
  | int n => cases ht
  | str y => cases ht
  | name y => exact .inr ⟨y, rfl, h⟩
  | _ => exact .inl h
theorem PatOf.more {w : World} {ns ns' : List (Addr × Obj)} {r x : Value} {tag : String} (k : ∀ p ∈ ns, p ∈ ns') (h : PatOf w ns r tag x) : PatOf w ns' r tag x := by
  obtain ⟨p, d, tp, t1, t2, c, e, h1, h2, h3⟩ := h
  exact ⟨p, d, tp, t1, t2, c, e, k _ h1, k _ h2, k _ h3⟩
theorem Fails.more {ns ns' : List (Addr × Obj)} {r : Value} (k : ∀ p ∈ ns, p ∈ ns') (h : Fails ns r) : Fails ns' r := by
  obtain ⟨x, d, e, h1, h2⟩ := h
  exact ⟨x, d, e, k _ h1, k _ h2⟩
theorem PatPost.more {w : World} {ns ns' : List (Addr × Obj)} {val r : Value} {v : V} (k : ∀ p ∈ ns, p ∈ ns') (h : PatPost w ns val r v) : PatPost w ns' val r v := by
  cases v with
  | pat j => exact h
  | dly j => obtain ⟨p0, d0, t0, tp, e, h1, h2, h3⟩ := h; exact ⟨p0, d0, t0, tp, e, k _ h1, k _ h2, h3.more k⟩
  | int n => obtain ⟨t, h⟩ := h; exact ⟨t, h.more k⟩
  | str n => obtain ⟨t, h⟩ := h; exact ⟨t, h.more k⟩
  | name n => exact Fails.more k h
  | node n => exact Fails.more k h
theorem PatPost.fails {w : World} {ns : List (Addr × Obj)} {val r : Value} {v : V} (h : PatPost w ns val r v) (hk : ([Str.ofString "NAME", Str.ofString "NODE"].any fun x => x == Str.ofString v.kind) = true) : Fails ns r := by
  rw [inNN] at hk
  cases v <;> first | exact h | (cases hk; done)
theorem PatPost.dly {w : World} {h₀ h : Heap} {L : Addr} {ns : List (Addr × Obj)} {val r : Value} {j : Int} (N : News h₀ L h ns) (hb : Bears w ns (.dly j) val) (hP : PatPost w ns val r (.dly j)) :
    ∃ p d tp t1 t2 t3 c, val = .ref p ∧ (p, instObj 89 d) ∈ ns ∧ (d, dictOf [ent w "tree" t1 (.ref tp)] 1) ∈ ns ∧ (tp, tupO [.str (Str.ofString "whole") t2, .int j t3] c) ∈ ns ∧ PatOf w ns r "delay" (.ref tp) := by
  obtain ⟨p, d, tp, t1, t2, t3, c, rfl, a1, a2, a3⟩ := hb
  obtain ⟨p0, d0, t0, tp0, e, b1, b2, b3⟩ := hP
  cases e
  have e1 := Option.some.inj ((N _ a1).1.symm.trans (N _ b1).1)
  have e2 : d = d0 := by simpa [instObj] using e1
  subst e2
  have e3 := Option.some.inj ((N _ a2).1.symm.trans (N _ b2).1)
  have e4 : tp = tp0 := by
    simp [dictOf] at e3
    exact e3.2
  subst e4
  exact ⟨p, d, tp, t1, t2, t3, c, rfl, a1, a2, a3, b3⟩
theorem V.text_ok {v : V} {x : Str} (hv : v.ok) (h : v.text = Option.some x) : PyData.strOk x = true := by
  cases v with
  | int n => cases h; exact strOk_of (writeT_ok hv).2
  | str y => cases h; exact strOk_of hv.2
  | _ => cases h
section
local macro_rules | `(tactic| walk_at "my go") => do
  let f ← firstR [← stops [] ["call !isinstance List.cons:2"], ← showR (← runT "call _ [ref"), ← showR (← runT "call _ [int")]
  `(tactic| repeat' ($f:tactic; $(← stops [394, 290] ["pyIter _", "compareOp _ Value.ref:1 Value.ref:1"]):tactic; walk_at "my step"))
local macro_rules | `(tactic| walk_at "my if") => steps [290] ["exec Stmt.If:4 _", "compareOp _ Value.ref:1 Value.ref:1"]
local macro_rules | `(tactic| walk_at "call builtin:isinstance") => do `(tactic| (k_here; (with_reducible show wpAny _ _ (call _ [Value.ref _, Value.ref _]) _ _ _); k_dflt $(← rfw "kin_callC" "123456789?" "1n2k3N4i5i6i7i8i9i"):tactic))
theorem c_cvr (w : World) (v : V) (val wv : Value) (wd : Int) (t0 tk : Tok) (h1 : 5 ≤ wd) (h2 : wd ≤ 40) (hv : v.ok) :
    Tells w 630 550 401 [wv, val, .str (Str.ofString v.kind) tk, .int wd t0] (fun ns => Bears w ns v val ∧ Wrd ns wv wd 5000)
      (fun ns r ns' => r = .bool true ∧ ∀ p ∈ ns, p ∈ ns') := by
  unfold Tells
  k_fill
  intro cn sn sg sc sm a ccd cl outer A₀ base h₀ L m news s Q E mean mg mb B F X N T hpre hret
  obtain ⟨hb, hW⟩ := hpre
  refine wpAny_call ?_
  k_enter
  walk_at "my step"
  refine wpAny_execs_cons ?_
  (rename Fr _ _ _ _ => lF)
  (rename News _ _ _ _ => lN)
  refine cut_name (Str.ofString "number") (fun x => ∃ t, x = optV (v.whole wd) t) lF lN ?_ ?_
  case refine_1 =>
    k_fold
    walk_at "my go"
    all_goals first
      | (refine hb.opInt (by with_reducible assumption) fun n t e u => ?_
         subst u
         exact CutPost.intro (by with_reducible assumption) (by with_reducible assumption) (fun p hp => hp) (by rw [e]; exact ex_some rfl))
      | exact CutPost.intro (by with_reducible assumption) (by with_reducible assumption) (fun p hp => hp) (ex_none (V.wholeN (by with_reducible assumption) (by with_reducible assumption)))
      | exact CutPost.intro (by with_reducible assumption) (by with_reducible assumption) (fun p hp => hp) ⟨_, rfl⟩
  case refine_2 =>
  clear lF lN
  rintro h tk1 _ lF lN ⟨t1, rfl⟩
  refine wpAny_execs_cons ?_
  refine cut_name (Str.ofString "text") (fun x => ∃ t, x = optS v.text t) lF lN ?_ ?_
  case refine_1 =>
    k_fold
    walk_at "my go"
    all_goals first
      | (refine hb.opStr (by with_reducible assumption) fun n t e u => ?_
         subst u
         exact CutPost.intro (by with_reducible assumption) (by with_reducible assumption) (fun p hp => hp) (by rw [e]; exact exs_some rfl))
      | exact CutPost.intro (by with_reducible assumption) (by with_reducible assumption) (fun p hp => hp) (exs_none (V.textN (by with_reducible assumption) (by with_reducible assumption)))
      | exact CutPost.intro (by with_reducible assumption) (by with_reducible assumption) (fun p hp => hp) ⟨_, rfl⟩
  case refine_2 =>
  clear lF lN
  rintro h tk2 _ lF lN0 ⟨t2, rfl⟩
  walk_at "my go"
  try k_fold
  refine' useE (c_convK w v val wv _) ?kp ?_
  case kp => exact hb
  intro h9 tk9 F9 N9
  clear lF lN0
  walk_at "my go"
  (rename News _ _ _ (_ :: _) => lN)
  try k_fold
  refine' useM (c_alike w v v val val _ _ _ _ _ _ hv hv) ?kp ?_
  case kp => exact ⟨hb.more (fun p hp => by walk_at "my up"), hb.more (fun p hp => by walk_at "my up"), by walk_at "my mem", by walk_at "my mem"⟩
  intro n9 h9 tk9 F9 N9 hk9
  rw [V.same_self]
  have hk0 : ∀ p ∈ news, p ∈ n9 := fun p hp => hk9 _ (by walk_at "my up")
  clear lN hk9
  walk_at "my go"
  try k_fold
  refine' useE (c_convA w v val wv _) ?kp ?_
  case kp => exact (hb.more hk0)
  intro h10 tk10 F10 N10
  walk_at "my if"
  (rename Fr _ _ _ _ => lF)
  refine cut_st (fun ns => ∀ p ∈ news, p ∈ ns) lF ?_ ?_
  · k_fold
    walk_at "my go"
    try k_fold
    refine' use (c_convS w v val wv wd _ h1 h2 hv) ?kp ?_
    case kp => exact ⟨hb.more hk0, hW.more hk0⟩
    rintro v11 n11 h11 tk11 F11 N11 ⟨e9, hS⟩
    replace e9 := e9.symm
    subst e9
    refine hideG fun H9 hG9 => ?_
    rcases hS with ⟨x, tx, ht, rfl⟩ | ⟨ht, tx, rfl⟩
    all_goals refine hG9 ?_
    all_goals clear hG9 H9
    · rw [ht] at F11
      dsimp only [optS] at F11
      walk_at "my go"
      · exact absurd (by with_reducible assumption : (x != x) = true) (by simp)
      · rw [ht]
        exact StCut.intro (by assumption) (by with_reducible assumption) hk0
    · rw [ht] at F11
      dsimp only [optS] at F11
      walk_at "my go"
      · exact absurd (by with_reducible assumption : (Str.ofString v.kind != Str.ofString v.kind) = true) (by simp)
      · rw [ht]
        exact StCut.intro (by assumption) (by with_reducible assumption) hk0
  clear hk0 lF
  rintro h11 tk11 n11 F11 N11 hk0
  walk_at "my go"
  try k_fold
  refine' use (c_convI w v val wv wd _ h1 h2 hv) ?kp ?_
  case kp => exact ⟨hb.more hk0, hW.more hk0⟩
  rintro v12 n12 h12 tk12 F12 N12 ⟨hk2, hI⟩
  replace hk0 : ∀ p ∈ news, p ∈ n12 := fun p hp => hk2 _ (hk0 p hp)
  clear hk2
  walk_at "my if"
  (rename Fr _ _ _ _ => lF)
  refine cut_st (fun ns => ∀ p ∈ news, p ∈ ns) lF ?_ ?_
  · k_fold
    refine hideG fun H9 hG9 => ?_
    rcases hI with ⟨n, tn, hw, rfl⟩ | ⟨hw, fx, fd, rfl, mf, md⟩
    all_goals refine hG9 ?_
    all_goals clear hG9 H9
    · rw [hw] at lF
      dsimp only [optV] at lF
      walk_at "my go"
      · first | exact absurd rfl (by with_reducible assumption) | exact absurd (by with_reducible assumption : (n != n) = true) (by simp)
      · rw [hw]
        exact StCut.intro (by assumption) (by with_reducible assumption) hk0
    · rw [hw] at lF
      dsimp only [optV] at lF
      walk_at "my go"
      rw [hw]
      exact StCut.intro (by assumption) (by with_reducible assumption) hk0
  clear hI hk0 lF
  rintro h13 tk13 n13 F13 N13 hk0
  walk_at "my go"
  try k_fold
  refine' use (c_convP w v val wv _ hv) ?kp ?_
  case kp => exact (hb.more hk0)
  rintro v14 n14 h14 tk14 F14 N14 ⟨hk2, hP⟩
  replace hk0 : ∀ p ∈ news, p ∈ n14 := fun p hp => hk2 _ (hk0 p hp)
  clear hk2
  walk_at "my if"
  (rename Fr _ _ _ _ => lF)
  (rename News _ _ _ _ => lN)
  refine cut_st (fun ns => ∀ p ∈ n14, p ∈ ns) lF ?_ ?_
  · cases ht : v.text with
    | none =>
      rw [ht] at lF
      dsimp only [optS] at lF
      k_fold
      walk_at "my go"
      exact StCut.intro (by assumption) (by with_reducible assumption) (fun p hp => by walk_at "my up")
    | some x =>
      rw [ht] at lF
      dsimp only [optS] at lF
      k_fold
      have hP' : ∃ t, PatOf w n14 v14 "chars" (.str x t) := by cases v <;> first | (cases ht; done) | (cases ht; exact hP)
      refine hideG fun H9 hG9 => ?_
      obtain ⟨t, p, d, tp, q1, q2, c, rfl, mp, md, mt⟩ := hP'
      refine hG9 ?_
      clear hG9 H9
      walk_at "my go"
      refine' ne_chars ?N (t2 := t) (t4 := t2) ?m1 ?m2 (V.text_ok hv ht) ?hu ?_
      case N => k_asm
      case m1 => exact List.mem_cons_of_mem _ mt
      case m2 => walk_at "my mem"
      case hu => k_units
      walk_at "my go"
      exact StCut.intro (by assumption) (by with_reducible assumption) fun p hp => by walk_at "my up"
  rintro h15 tk15 n15 F15 N15 hk15
  clear lF lN
  walk_at "my if"
  (rename Fr _ _ _ _ => lF)
  (rename News _ _ _ _ => lN)
  refine cut_st (fun ns => ∀ p ∈ n15, p ∈ ns) lF ?_ ?_
  · k_fold
    walk_at "my go"
    · obtain ⟨j, rfl⟩ := V.toDly (by with_reducible assumption)
      refine hideG fun H9 hG9 => ?_
      obtain ⟨p, d, tp, q1, q2, q3, c, rfl, m1, m2, m3, pp, dp, tpp, r1, r2, cp, rfl, m4, m5, m6⟩ := PatPost.dly lN ((hb.more hk0).more hk15) (PatPost.more hk15 hP)
      refine hG9 ?_
      clear hG9 H9
      walk_at "my go"
      refine' ne_delay ?N (t3 := q2) (t4 := q3) ?m1 ?m2 ?m3 ?hu ?_
      case N => k_asm
      case m1 => exact List.mem_cons_of_mem _ m6
      case m2 => walk_at "my mem"
      case m3 => exact List.mem_cons_of_mem _ m3
      case hu => k_units
      walk_at "my go"
      exact StCut.intro (by assumption) (by with_reducible assumption) fun p hp => by walk_at "my up"
    · exact StCut.intro (by assumption) (by with_reducible assumption) fun p hp => by walk_at "my up"
  rintro h16 tk16 n16 F16 N16 hk16
  clear lF lN
  walk_at "my if"
  (rename Fr _ _ _ _ => lF)
  (rename News _ _ _ _ => lN)
  refine cut_st (fun ns => ∀ p ∈ n16, p ∈ ns) lF ?_ ?_
  · k_fold
    walk_at "my go"
    · refine hideG fun H9 hG9 => ?_
      obtain ⟨fx, fd, rfl, m1, m2⟩ : Fails n16 v14 := Fails.more hk16 (Fails.more hk15 (PatPost.fails hP (by with_reducible assumption)))
      refine hG9 ?_
      clear hG9 H9
      walk_at "my go"
      exact StCut.intro (by assumption) (by with_reducible assumption) fun p hp => by walk_at "my up"
    · exact StCut.intro (by assumption) (by with_reducible assumption) fun p hp => by walk_at "my up"
  rintro h17 tk17 n17 F17 N17 hk17
  replace hk0 : ∀ p ∈ news, p ∈ n17 := fun p hp => hk17 _ (hk16 _ (hk15 _ (hk0 p hp)))
  clear lF lN hk15 hk16 hk17 hP
  walk_at "my go"
  try k_fold
  refine' use (c_convN w v val wv _ hv) ?kp ?_
  case kp => exact (hb.more hk0)
  rintro v18 n18 h18 tk18 F18 N18 ⟨hk2, hN⟩
  replace hk0 : ∀ p ∈ news, p ∈ n18 := fun p hp => hk2 _ (hk0 p hp)
  clear hk2
  walk_at "my if"
  (rename Fr _ _ _ _ => lF)
  (rename News _ _ _ _ => lN)
  cases ht : v.text with
  | none =>
    rw [ht] at lF
    dsimp only [optS] at lF
    refine hideG fun H9 hG9 => ?_
    rcases hN.none ht with ⟨fx, fd, rfl, m1, m2⟩ | ⟨y, rfl, e⟩
    all_goals refine hG9 ?_
    all_goals clear hG9 H9
    · walk_at "my go"
      exact hret _ _ _ _ (by with_reducible assumption) (by with_reducible assumption) ⟨rfl, fun p hp => by have hp := hk0 p hp; walk_at "my up"⟩
    · subst e
      refine hideG fun H9 hG9 => ?_
      obtain ⟨p1, d1, q1, q2, q3, q4, q5, rfl, m1, m2⟩ := hb.more hk0
      refine hG9 ?_
      clear hG9 H9
      walk_at "my go"
      exact hret _ _ _ _ (by with_reducible assumption) (by with_reducible assumption) ⟨rfl, fun p hp => by have hp := hk0 p hp; walk_at "my up"⟩
  | some x =>
    rw [ht] at lF
    dsimp only [optS] at lF
    refine hideG fun H9 hG9 => ?_
    rcases hN.some ht with ⟨hx, fx, fd, rfl, m1, m2⟩ | ⟨hx, p1, d1, q1, q2, q3, q4, q5, rfl, m1, m2⟩
    all_goals refine hG9 ?_
    all_goals clear hG9 H9
    · subst hx
      walk_at "my go"
      exact hret _ _ _ _ (by with_reducible assumption) (by with_reducible assumption) ⟨rfl, fun p hp => by have hp := hk0 p hp; walk_at "my up"⟩
    · walk_at "my go"
      · refine' eq_var ?N (t2 := q5) (t4 := t2) ?m1 ?m2 (V.text_ok hv ht) ?hu ?_
        case N => k_asm
        case m1 => walk_at "my mem"
        case m2 => walk_at "my mem"
        case hu => k_units
        walk_at "my go"
        exact hret _ _ _ _ (by with_reducible assumption) (by with_reducible assumption) ⟨rfl, fun p hp => by have hp := hk0 p hp; walk_at "my up"⟩
      · exact absurd (by simpa using (by with_reducible assumption : (x != Str.ofString "") = false)) hx
end

end

section
noncomputable def openK : List Str := [Str.ofString "ABEND", Str.ofString "ANCHOR", Str.ofString "CODE", Str.ofString "DUMP", Str.ofString "FTRACE", Str.ofString "FULLSCAN", Str.ofString "INPUT", Str.ofString "MAXLNGTH", Str.ofString "OUTPUT", Str.ofString "STLIMIT", Str.ofString "TRACE", Str.ofString "TRIM"]
noncomputable def toldK : List Str := [Str.ofString "ERRTYPE", Str.ofString "FNCLEVEL", Str.ofString "LASTNO", Str.ofString "RTNTYPE", Str.ofString "STCOUNT", Str.ofString "STFCOUNT", Str.ofString "STNO"]
noncomputable def patK : List Str := [Str.ofString "ABORT", Str.ofString "ARB", Str.ofString "BAL", Str.ofString "FAIL", Str.ofString "FENCE", Str.ofString "REM", Str.ofString "SUCCEED"]
noncomputable def isK (x : Str) : Bool := x == Str.ofString "ALPHABET" || openK.contains x || toldK.contains x || patK.contains x
theorem valueAt_isSome (kvs : List (Str × Value)) (x : Str) : (valueAt kvs x).isSome = (kvs.map (·.1)).contains x := by
  induction kvs with
  | nil => rfl
  | cons a r ih =>
    unfold valueAt at ih ⊢
    rw [List.find?_cons, List.map_cons, List.contains_cons, ← ih]
    by_cases h : a.1 = x
    · subst h
      simp
    · have h' : ¬ x = a.1 := fun e => h e.symm
      simp [h, h']
section
variable {w : World} {A : Around} {E : Value → Shared → Prop} {s : Shared} {h₀ : Heap} {L d : Addr} {m : Str → Option Value} {news : List (Addr × Obj)} {o : Obj} {kvs : List (Str × Value)} {ks : List Str} {x : Str} {t : Tok} {Q : Value → Shared → Prop}
theorem kw_in (N : News h₀ L s.heap news) (hm : (d, o) ∈ news) (hd : o.IsDictOf (PySem.strKind PySem.Challenge.rw_np0298_01.row.prog w) kvs) (lo : (d == sysModules) = false) (hk : kvs.map (·.1) = ks) (h : Q (.bool (ks.contains x)) { s with toks := s.toks + 1 }) :
    wpAny (model PySem.Challenge.rw_np0298_01.row.prog w) A (compareOp .In (.str x t) (.ref d)) Q E s :=
  wpAny_in_of (strKind_is _ _ _ _) lo (kda_dict N hm hd).mapOf (by rw [valueAt_isSome, hk]; exact h)
theorem kw_notin (N : News h₀ L s.heap news) (hm : (d, o) ∈ news) (hd : o.IsDictOf (PySem.strKind PySem.Challenge.rw_np0298_01.row.prog w) kvs) (lo : (d == sysModules) = false) (hk : kvs.map (·.1) = ks) (h : Q (.bool (!ks.contains x)) { s with toks := s.toks + 1 }) :
    wpAny (model PySem.Challenge.rw_np0298_01.row.prog w) A (compareOp .NotIn (.str x t) (.ref d)) Q E s :=
  wpAny_notIn_of (strKind_is _ _ _ _) lo (kda_dict N hm hd).mapOf (by rw [valueAt_isSome, hk]; exact h)
end
/-- a fresh dict of these keys lies on top of the ledger -/
noncomputable abbrev KwTop (w : World) (ks : List Str) (ns : List (Addr × Obj)) (r : Value) (ns' : List (Addr × Obj)) : Prop :=
  ∃ d o kvs, r = .ref d ∧ (d == sysModules) = false ∧ (∀ p ∈ ns, p.1 < d) ∧ ns' = (d, o) :: ns ∧ o.IsDictOf (PySem.strKind PySem.Challenge.rw_np0298_01.row.prog w) kvs ∧ kvs.map (·.1) = ks
section
local macro_rules | `(tactic| walk_at "eval Dict") => do
  sq (wordK "here") [← `(tactic| k_dflt $(← rf "kdn_str" "qFNbalen?" "qrFaNabbarlrevnz"):tactic), ← inC true "d' h' o' F' N' l1 lo' hd'", ← `(tactic| try k_lt l1)]
theorem c_openk (w : World) : Tells w 690 850 297 [] (fun _ => True) (KwTop w openK) := by
  unfold Tells
  k_fill
  intro cn sn sg sc sm a ccd cl outer A₀ base h₀ L m news s Q E mean mg mb B F X N T hpre hret
  k_steps
  exact hret _ _ _ _ (by with_reducible assumption) (by with_reducible assumption) ⟨_, _, _, rfl, by assumption, by assumption, rfl, by with_reducible assumption, rfl⟩
theorem c_toldk (w : World) : Tells w 690 850 304 [] (fun _ => True) (KwTop w toldK) := by
  unfold Tells
  k_fill
  intro cn sn sg sc sm a ccd cl outer A₀ base h₀ L m news s Q E mean mg mb B F X N T hpre hret
  k_steps
  exact hret _ _ _ _ (by with_reducible assumption) (by with_reducible assumption) ⟨_, _, _, rfl, by assumption, by assumption, rfl, by with_reducible assumption, rfl⟩
theorem c_patk (w : World) :
    Tells w 690 850 311 [] (fun _ => True) (fun ns r ns' => ∃ d o kvs tp t c, r = .ref d ∧ (d == sysModules) = false ∧ (∀ p ∈ ns, p ∈ ns') ∧ (d, o) ∈ ns' ∧ o.IsDictOf (PySem.strKind PySem.Challenge.rw_np0298_01.row.prog w) kvs ∧ kvs.map (·.1) = patK ∧ valueAt kvs (Str.ofString "ARB") = some (.ref tp) ∧ (tp, tupO [.str (Str.ofString "arb") t] c) ∈ ns') := by
  unfold Tells
  k_fill
  intro cn sn sg sc sm a ccd cl outer A₀ base h₀ L m news s Q E mean mg mb B F X N T hpre hret
  k_steps
  refine' hret _ _ _ _ (by with_reducible assumption) (by with_reducible assumption) ⟨_, _, _, _, ?t, ?c, rfl, by assumption, fun p hp => ?x1, ?x2, by with_reducible assumption, rfl, rfl, ?x3⟩
  case x3 => repeat (first | exact List.mem_cons_self | refine List.mem_cons_of_mem _ ?_)
  case x1 => repeat (first | exact hp | refine List.mem_cons_of_mem _ ?_)
  case x2 => repeat (first | exact List.mem_cons_self | refine List.mem_cons_of_mem _ ?_)
end

end
local macro_rules | `(tactic| walk_at "call ref") => use9 297 "c_openk" "_" "Kp" false "d9 o9 kvs9 e9 lo9 l9 e8 hd9 hk9" "e9 e8" false
local macro_rules | `(tactic| walk_at "call ref") => use9 304 "c_toldk" "_" "Kp" false "d9 o9 kvs9 e9 lo9 l9 e8 hd9 hk9" "e9 e8" false
local macro_rules | `(tactic| walk_at "call ref") => use9 311 "c_patk" "_" "Kp" false "d9 o9 kvs9 tp9 t9 c9 e9 lo9 e8 m9 hd9 hk9 hv9 mt9" "e9" false
local macro_rules | `(tactic| walk_at "compareOp In str ref") => do dfltR (← rf "kw_in" "Nmdlk?" "dwNammlwkw")
local macro_rules | `(tactic| walk_at "compareOp NotIn str ref") => do dfltR (← rf "kw_notin" "Nmdlk?" "dwNammlwkw")

section
section
theorem c_isk (w : World) (x : Str) (t : Tok) : Tells w 680 800 330 [.str x t] (fun _ => True) (fun ns r ns' => r = .bool (isK x) ∧ ∀ p ∈ ns, p ∈ ns') := by
  unfold Tells
  k_fill
  intro cn sn sg sc sm a ccd cl outer A₀ base h₀ L m news s Q E mean mg mb B F X N T hpre hret
  k_steps
  all_goals (refine hret _ _ _ _ (by with_reducible assumption) (by with_reducible assumption) ⟨by unfold isK; simp only [*, Bool.true_or, Bool.false_or], fun p hp => ?_⟩; walk_at "my uq")
local macro_rules | `(tactic| walk_at "call ref") => use9 330 "c_isk" "___" "Kp" true "e9 e8" "e9" false
theorem c_isp (w : World) (x : Str) (t : Tok) : Tells w 670 750 337 [.str x t] (fun _ => True) (fun ns r ns' => r = .bool (isK x && !openK.contains x) ∧ ∀ p ∈ ns, p ∈ ns') := by
  unfold Tells
  k_fill
  intro cn sn sg sc sm a ccd cl outer A₀ base h₀ L m news s Q E mean mg mb B F X N T hpre hret
  k_steps
  all_goals (refine hret _ _ _ _ (by with_reducible assumption) (by with_reducible assumption) ⟨by simp only [*, Bool.true_and, Bool.false_and], fun p hp => ?_⟩; walk_at "my uq")
end

end
local macro_rules | `(tactic| walk_at "call ref") => use9 330 "c_isk" "___" "Kp" true "e9 e8" "e9" false
local macro_rules | `(tactic| walk_at "call ref") => use9 337 "c_isp" "___" "Kp" true "e9 e8" "e9" false

section
theorem join_cps : ∀ zs : List Str, (Str.join (Str.ofString "") zs).cps.toList = (zs.map fun z => z.cps.toList).flatten := by
  intro zs
  induction zs with
  | nil => rfl
  | cons z zs ih =>
    cases zs with
    | nil => simp [Str.join]
    | cons z' zs =>
      have e : (Str.join (Str.ofString "") (z :: z' :: zs)).cps = z.cps ++ (Str.ofString "").cps ++ (Str.join (Str.ofString "") (z' :: zs)).cps := rfl
      rw [e, Array.toList_append, Array.toList_append, ih]
      have e2 : (Str.ofString "").cps.toList = [] := rfl
      rw [e2]
      simp
theorem join_range (n : Nat) : (Txt.join (Str.ofString "") (((List.range n).map fun c => (⟨#[c]⟩ : Str)).map fun a => a)).cps.toList = List.range n := by
  rw [List.map_id']
  show (Builtin.Str.glued (Str.ofString "") _).cps.toList = _
  rw [StrLaws.glued_eq_join, join_cps, List.map_map]
  induction n with
  | zero => rfl
  | succ n ih =>
    rw [List.range_succ, List.map_append, List.flatten_append, ih]
    rfl
section
local macro_rules | `(tactic| k_steps) => steps [] ["eval Expr.ListComp:4 _"]
theorem c_alph (w : World) : Tells w 690 850 316 [] (fun _ => True) (fun ns r ns' => (∃ x t, r = .str x t ∧ x.cps.toList = List.range 256) ∧ ∀ p ∈ ns, p ∈ ns') := by
  unfold Tells
  k_fill
  intro cn sn sg sc sm a ccd cl outer A₀ base h₀ L m news s Q E mean mg mb B F X N T hpre hret
  k_steps
  refine' LCg.ListComp_U (F₀ := ?F) (by rfl) (by decide) (by rfl) (by decide) (by rfl) ?_
  case F => k_asm
  repeat' ((fail_if_success (with_reducible show LCg.CompSrc _ _ _ _ _ _ _ _ _ _ _ _ _ _)); walk_at "my step")
  refine' LCg.CompSrc.range (n := 256) rfl ?F ?N (by with_reducible assumption) (small_one (by decide) (by decide) (by omega) (by omega)) (rangeSize_nat _ _) (by rw [PySem.sizeLine_eq]; omega) ?_
  case F => k_asm
  case N => k_asm
  intro g9
  refine comp_ind (fun i ys nx => nx = news ∧ StrsAre ys ((List.range i).map fun c => (⟨#[c]⟩ : Str))) 256 ?_ ?_ 256 0 [] _ rfl ⟨rfl, .nil⟩
  · intro i ys nx v I oI C oC D m₂ h tk E' hi hJ hP hC hx F1 N1 off ne
    obtain ⟨rfl, z1⟩ := hJ
    obtain ⟨t, rfl⟩ := hP
    k_steps
    refine LCg.CompEnd.intro F1 N1 nx (fun p hp => hp) off trivial ⟨rfl, ?_⟩
    rw [List.range_succ, List.map_append]
    have e : ((0 : Int) + (i : Int)).toNat = i := by omega
    rw [e]
    exact kct_snoc z1
  · intro ys nx hJ
    obtain ⟨rfl, z1⟩ := hJ
    intro D h tk F1 N1 off
    have hc1 : CarriedAll ys (((List.range 256).map fun c => (⟨#[c]⟩ : Str)).map fun a => PyData.str ((fun a : Str => a) a)) := z1.carried
    repeat' ((fail_if_success (with_reducible show wpAny _ _ (call (Value.builtin "str.join") _) _ _ _)); walk_at "my step")
    refine KT.join_1 (N1.isList (.head _)) hc1 (fun a ha => by obtain ⟨c, hc, rfl⟩ := List.mem_map.mp ha; rfl) (by simp) ?_
    intro t8 k8 e8
    k_steps
    exact hret _ _ _ _ (by with_reducible assumption) (by with_reducible assumption) ⟨⟨_, _, rfl, join_range 256⟩, fun p hp => by repeat (first | exact hp | refine List.mem_cons_of_mem _ ?_)⟩
end

end
local macro_rules | `(tactic| walk_at "call ref") => use9 316 "c_alph" "_" "Kp" true "ax9 at9 e9 ha9|e8" "e9" false

section
theorem isStr_two {v : Value} {x y : Str} (h1 : v.isStr x = true) (h2 : v.isStr y = true) : x = y := by
  cases v <;> simp_all [Value.isStr]
theorem find_put_same (x : Str) (h : Int) (t : Tok) (v : Value) : ∀ es : List DictEntry, ∃ e, (putL x h (.str x t) v es).find? (·.key.isStr x) = some e ∧ e.val = v := by
  intro es
  induction es with
  | nil => exact ⟨⟨h, .str x t, v⟩, by simp [putL, Value.isStr], rfl⟩
  | cons e r ih =>
    unfold putL
    split
    · rename_i hc
      exact ⟨⟨e.hash, e.key, v⟩, by simp [hc], rfl⟩
    · rename_i hc
      obtain ⟨e', h1, h2⟩ := ih
      exact ⟨e', by rw [List.find?_cons]; simp only [hc]; exact h1, h2⟩
theorem find_put_other {x y : Str} (hxy : x ≠ y) (h : Int) (t : Tok) (v : Value) : ∀ es : List DictEntry, ((putL y h (.str y t) v es).find? (·.key.isStr x)).map (·.val) = (es.find? (·.key.isStr x)).map (·.val) := by
  intro es
  induction es with
  | nil => simp [putL, Value.isStr, Ne.symm hxy]
  | cons e r ih =>
    unfold putL
    split
    · rename_i hc
      have : e.key.isStr x = false := by
        cases q : e.key.isStr x with
        | false => rfl
        | true => exact absurd (isStr_two q hc) hxy
      rw [List.find?_cons, List.find?_cons]
      simp only [this]
    · rw [List.find?_cons, List.find?_cons]
      cases q : e.key.isStr x with
      | false => exact ih
      | true => rfl
theorem getL_put_same (x : Str) (h : Int) (t : Tok) (v : Value) (es : List DictEntry) : getL x (putL x h (.str x t) v es) = some (some v) := by
  obtain ⟨e, h1, h2⟩ := find_put_same x h t v es
  unfold getL
  rw [h1, ← h2]
theorem getL_find {x : Str} {es : List DictEntry} {v : Value} : getL x es = some (some v) ↔ (es.find? (·.key.isStr x)).map (·.val) = some v := by
  unfold getL
  cases es.find? (·.key.isStr x) with
  | some e => simp
  | none => simp
theorem getL_put_other {x y : Str} (hxy : x ≠ y) (h : Int) (t : Tok) {v u : Value} {es : List DictEntry} (g : getL x es = some (some u)) : getL x (putL y h (.str y t) v es) = some (some u) := by
  rw [getL_find, find_put_other hxy, ← getL_find]
  exact g
theorem refKey_put (x : Str) (h : Int) (t : Tok) (v : Value) : ∀ es : List DictEntry, (putL x h (.str x t) v es).any (·.refKey) = es.any (·.refKey) := by
  intro es
  induction es with
  | nil => rfl
  | cons e r ih =>
    unfold putL
    split
    · rfl
    · rw [List.any_cons, List.any_cons, ih]
theorem len_put (x : Str) (h : Int) (t : Tok) (v : Value) : ∀ es : List DictEntry, (getL x es).isSome = true → es.any (·.refKey) = false → ∀ u, getL x es = some (some u) → (putL x h (.str x t) v es).length = es.length := by
  intro es
  induction es with
  | nil => intro _ _ u h; simp [getL] at h
  | cons e r ih =>
    intro _ h2 u h3
    unfold putL
    split
    · rfl
    · rename_i hc
      rw [List.any_cons, Bool.or_eq_false_iff] at h2
      rw [getL_find, List.find?_cons] at h3
      simp only [hc] at h3
      rw [← getL_find] at h3
      rw [List.length_cons, List.length_cons, ih (by rw [h3]; rfl) h2.2 u h3]
/-- the ledger but for dicts -/
noncomputable def KeepD (ns ns' : List (Addr × Obj)) : Prop := ∀ p ∈ ns, (∀ es n, p.2.data ≠ .dict es n) → p ∈ ns'
theorem KeepD.of {ns ns' : List (Addr × Obj)} (h : ∀ p ∈ ns, p ∈ ns') : KeepD ns ns' := fun p hp _ => h p hp
theorem KeepD.trans {a b c : List (Addr × Obj)} (h : KeepD a b) (k : KeepD b c) : KeepD a c := fun p hp n => k p (h p hp n) n
/-- the world with its dict of keywords -/
noncomputable def WrdK (w : World) (p d kd : Addr) (P : List (Str × Value) → Prop) (ns : List (Addr × Obj)) (wd ml : Int) : Prop :=
  ∃ es n t1 t2 o kvs, (p, instObj 265 d) ∈ ns ∧ (d, dictOf es n) ∈ ns ∧ es.any (·.refKey) = false ∧ es.length ≤ 30 ∧ getL (Str.ofString "width") es = some (some (.int wd t1)) ∧ getL (Str.ofString "most_length") es = some (some (.int ml t2)) ∧
    getL (Str.ofString "keywords") es = some (some (.ref kd)) ∧ d ≠ kd ∧ (kd, o) ∈ ns ∧ (kd == sysModules) = false ∧ o.IsDictOf (PySem.strKind PySem.Challenge.rw_np0298_01.row.prog w) kvs ∧ kvs.length ≤ 60 ∧ P kvs
theorem WrdK.mk {w : World} {p d kd : Addr} {P : List (Str × Value) → Prop} {ns : List (Addr × Obj)} {wd ml : Int} {es : List DictEntry} {n : Nat} {t1 t2 : Tok} {o : Obj} {kvs : List (Str × Value)}
    (a1 : (p, instObj 265 d) ∈ ns) (a2 : (d, dictOf es n) ∈ ns) (a3 : es.any (·.refKey) = false) (a4 : es.length ≤ 30) (a5 : getL (Str.ofString "width") es = some (some (.int wd t1))) (a6 : getL (Str.ofString "most_length") es = some (some (.int ml t2)))
    (a7 : getL (Str.ofString "keywords") es = some (some (.ref kd))) (a8 : d ≠ kd) (a9 : (kd, o) ∈ ns) (b1 : (kd == sysModules) = false) (b2 : o.IsDictOf (PySem.strKind PySem.Challenge.rw_np0298_01.row.prog w) kvs) (b3 : kvs.length ≤ 60) (b4 : P kvs) : WrdK w p d kd P ns wd ml :=
  ⟨es, n, t1, t2, o, kvs, a1, a2, a3, a4, a5, a6, a7, a8, a9, b1, b2, b3, b4⟩
theorem WrdK.opn {w : World} {p d kd : Addr} {P : List (Str × Value) → Prop} {ns : List (Addr × Obj)} {wd ml : Int} {G : Prop} (W : WrdK w p d kd P ns wd ml) (k : ∀ es n t1 t2 o kvs, (p, instObj 265 d) ∈ ns → (d, dictOf es n) ∈ ns → es.any (·.refKey) = false → es.length ≤ 30 → getL (Str.ofString "width") es = some (some (.int wd t1)) → getL (Str.ofString "most_length") es = some (some (.int ml t2)) → getL (Str.ofString "keywords") es = some (some (.ref kd)) → d ≠ kd → (kd, o) ∈ ns → (kd == sysModules) = false → o.IsDictOf (PySem.strKind PySem.Challenge.rw_np0298_01.row.prog w) kvs → kvs.length ≤ 60 → P kvs → G) : G := by
  obtain ⟨es, n, t1, t2, o, kvs, a1, a2, a3, a4, a5, a6, a7, a8, a9, b1, b2, b3, b4⟩ := W
  exact k es n t1 t2 o kvs a1 a2 a3 a4 a5 a6 a7 a8 a9 b1 b2 b3 b4
theorem WrdK.sub {w : World} {p d kd : Addr} {P : List (Str × Value) → Prop} {ns ns' : List (Addr × Obj)} {wd ml : Int} (k : ∀ q ∈ ns, (q.1 = p ∨ q.1 = d ∨ q.1 = kd) → q ∈ ns') (W : WrdK w p d kd P ns wd ml) : WrdK w p d kd P ns' wd ml :=
  W.opn fun es n t1 t2 o kvs a1 a2 a3 a4 a5 a6 a7 a8 a9 b1 b2 b3 b4 => .mk (k _ a1 (.inl rfl)) (k _ a2 (.inr (.inl rfl))) a3 a4 a5 a6 a7 a8 (k _ a9 (.inr (.inr rfl))) b1 b2 b3 b4
theorem WrdK.more {w : World} {p d kd : Addr} {P : List (Str × Value) → Prop} {ns ns' : List (Addr × Obj)} {wd ml : Int} (k : ∀ p ∈ ns, p ∈ ns') (W : WrdK w p d kd P ns wd ml) : WrdK w p d kd P ns' wd ml := W.sub fun q hq _ => k q hq
theorem WrdK.imp {w : World} {p d kd : Addr} {P P' : List (Str × Value) → Prop} {ns : List (Addr × Obj)} {wd ml : Int} (k : ∀ kvs, P kvs → P' kvs) (W : WrdK w p d kd P ns wd ml) : WrdK w p d kd P' ns wd ml :=
  W.opn fun es n t1 t2 o kvs a1 a2 a3 a4 a5 a6 a7 a8 a9 b1 b2 b3 b4 => .mk a1 a2 a3 a4 a5 a6 a7 a8 a9 b1 b2 b3 (k _ b4)
theorem WrdK.wrd {w : World} {p d kd : Addr} {P : List (Str × Value) → Prop} {ns : List (Addr × Obj)} {wd ml : Int} (W : WrdK w p d kd P ns wd ml) : Wrd ns (.ref p) wd ml :=
  W.opn fun es n t1 t2 o kvs a1 a2 a3 a4 a5 a6 a7 a8 a9 b1 b2 b3 b4 => Wrd.of a1 a2 a3 a4 a5 a6 a7
theorem WrdK.mems {w : World} {p d kd : Addr} {P : List (Str × Value) → Prop} {ns : List (Addr × Obj)} {wd ml : Int} (W : WrdK w p d kd P ns wd ml) : (∃ o, (p, o) ∈ ns) ∧ (∃ o, (d, o) ∈ ns) ∧ ∃ o, (kd, o) ∈ ns :=
  W.opn fun es n t1 t2 o kvs a1 a2 a3 a4 a5 a6 a7 a8 a9 b1 b2 b3 b4 => ⟨⟨_, a1⟩, ⟨_, a2⟩, ⟨_, a9⟩⟩
theorem dict_data {knd : KeyKind PySem.Challenge.rw_np0298_01.row.prog w Str} {o : Obj} {kvs : List (Str × Value)} (h : o.IsDictOf knd kvs) : ∃ es n, o.data = .dict es n := by
  obtain ⟨es, ep, _, h, _⟩ := h
  exact ⟨es, ep, h⟩
theorem same_obj {h₀ h : Heap} {L a : Addr} {ns : List (Addr × Obj)} {o o' : Obj} (N : News h₀ L h ns) (h1 : (a, o) ∈ ns) (h2 : (a, o') ∈ ns) : o = o' :=
  Option.some.inj ((N _ h1).1.symm.trans (N _ h2).1)
section
variable {w w' : World} {A : Around} {E : Value → Shared → Prop} {s : Shared} {h₀ : Heap} {L : Addr} {m : Str → Option Value} {news : List (Addr × Obj)} {p d kd : Addr} {P : List (Str × Value) → Prop} {wd ml : Int} {expr : Bool}
theorem wk_keywords {Q : Value → Shared → Prop} (F : Fr h₀ L s.heap m) (X : (hd.heap_1 w'.params).In h₀) (N : News h₀ L s.heap news) (W : WrdK w p d kd P news wd ml) (h : ∀ tk, Q (.ref kd) { s with toks := tk }) :
    wpAny (model PySem.Challenge.rw_np0298_01.row.prog w) A (getAttr (.ref p) "keywords" expr) Q E s := by
  refine W.opn fun es n t1 t2 o kvs a1 a2 a3 a4 a5 a6 a7 a8 a9 b1 b2 b3 b4 => ?_
  revert X
  k_fill
  intro X
  refine' get_own F X (InstAt.of_news N a1 a2) ?a ?b ?c ?d a7 rfl (h _)
  case a => k_is
  case b => k_is
  case c => k_is
  case d => k_is
/-- world.most_length = number -/
theorem wk_length {Q : Unit → Shared → Prop} {ml' : Int} {t : Tok} (F : Fr h₀ L s.heap m) (X : (hd.heap_1 w'.params).In h₀) (N : News h₀ L s.heap news) (W : WrdK w p d kd P news wd ml)
    (h : ∀ h' tk ns', Fr h₀ L h' m → News h₀ L h' ns' → WrdK w p d kd P ns' wd ml' → KeepD news ns' → Q () { s with heap := h', toks := tk }) :
    wpAny (model PySem.Challenge.rw_np0298_01.row.prog w) A (setAttr (.ref p) "most_length" (.int ml' t)) Q E s := by
  refine W.opn fun es n t1 t2 o kvs a1 a2 a3 a4 a5 a6 a7 a8 a9 b1 b2 b3 b4 => ?_
  have N1 : News h₀ L s.heap ((d, dictOf es n) :: except d news) := nsub N fun q hq => by
    rcases List.mem_cons.mp hq with rfl | hq
    · exact a2
    · exact (mem_except.mp hq).1
  have hx : ∀ p ∈ except d news, p.1 ≠ d := fun p hp => (mem_except.mp hp).2
  have I := InstAt.of_news N a1 a2
  have hpd : p ≠ d := ne_of_obj N a1 a2 (by simp)
  revert X
  k_fill
  intro X
  refine' set_dict F X N1 I rfl ?a ?b ?c ?d ?e rfl (Upd.head hx) ?f ?_
  case a => k_is
  case b => k_is
  case c => k_is
  case d => k_is
  case e => rw [a6]; rfl
  case f => rw [len_put _ _ _ _ _ (by rw [a6]; rfl) a3 _ a6]; omega
  intro h' F' N'
  refine h _ _ _ F' N' ⟨_, _, t1, t, o, kvs, .tail _ (mem_except.mpr ⟨a1, hpd⟩), .head _, ?_, ?_, getL_put_other (by decide +kernel) _ _ a5, getL_put_same _ _ _ _ _, getL_put_other (by decide +kernel) _ _ a7, a8, .tail _ (mem_except.mpr ⟨a9, Ne.symm a8⟩), b1, b2, b3, b4⟩ ?_
  · rw [refKey_put]; exact a3
  · rw [len_put _ _ _ _ _ (by rw [a6]; rfl) a3 _ a6]; omega
  · intro q hq hn
    refine .tail _ (mem_except.mpr ⟨hq, fun e => ?_⟩)
    obtain ⟨qa, qo⟩ := q
    obtain rfl : qa = d := e
    obtain rfl := same_obj N hq a2
    exact hn _ _ rfl
/-- world.keywords[name] = value -/
theorem wk_store {Q : Unit → Shared → Prop} {x : Str} {t : Tok} {v : Value} {P' : List (Str × Value) → Prop} (F : Fr h₀ L s.heap m) (N : News h₀ L s.heap news) (W : WrdK w p d kd P news wd ml) (hs : ∀ kvs, P kvs → kvs.length ≤ 60 → P' (stored kvs x v) ∧ (stored kvs x v).length ≤ 60)
    (h : ∀ h' tk o, Fr h₀ L h' m → News h₀ L h' ((kd, o) :: except kd news) → WrdK w p d kd P' ((kd, o) :: except kd news) wd ml → KeepD news ((kd, o) :: except kd news) → Q () { s with heap := h', toks := tk }) :
    wpAny (model PySem.Challenge.rw_np0298_01.row.prog w) A (setItem (.ref kd) (.str x t) v) Q E s := by
  refine W.opn fun es n t1 t2 o kvs a1 a2 a3 a4 a5 a6 a7 a8 a9 b1 b2 b3 b4 => ?_
  have N1 : News h₀ L s.heap ((kd, o) :: except kd news) := nsub N fun q hq => by
    rcases List.mem_cons.mp hq with rfl | hq
    · exact a9
    · exact (mem_except.mp hq).1
  have hx : ∀ p ∈ except kd news, p.1 ≠ kd := fun p hp => (mem_except.mp hp).2
  obtain ⟨c1, c2⟩ := hs kvs b4 b3
  refine kda_set (knd := PySem.strKind _ _) F N1 (UpdF.head hx) b2 (strKind_is _ _ _ _) (by rw [sizeLine_eq]; omega) fun h' o' F' N' hd' => ?_
  have hpk : p ≠ kd := by
    rintro rfl
    obtain rfl := same_obj N a1 a9
    obtain ⟨x1, x2, x3⟩ := dict_data b2
    cases x3
  refine h _ _ _ F' N' ⟨es, n, t1, t2, o', _, .tail _ (mem_except.mpr ⟨a1, hpk⟩), .tail _ (mem_except.mpr ⟨a2, a8⟩), a3, a4, a5, a6, a7, a8, .head _, b1, hd', c2, c1⟩ ?_
  intro q hq hn
  refine .tail _ (mem_except.mpr ⟨hq, fun e => ?_⟩)
  obtain ⟨qa, qo⟩ := q
  obtain rfl : qa = kd := e
  obtain rfl := same_obj N hq a9
  obtain ⟨x1, x2, x3⟩ := dict_data b2
  exact hn _ _ x3
/-- world.keywords[name] -/
theorem wk_item {value slice : PySem.Expr} {x : Str} {t : Tok} {k : Int} {Q : Value → Shared → Prop} (N : News h₀ L s.heap news) (W : WrdK w p d kd P news wd ml) (hv : ∀ kvs, P kvs → ∃ t, valueAt kvs x = some (.int k t)) (h : ∀ t tk, Q (.int k t) { s with toks := tk })
    (hs : subscripted slice false (.ref kd) (.str x t) = operate [.ref kd, .str x t] (getItem (.ref kd) (.str x t)) := by with_unfolding_all rfl) (hg : ∀ r, letTemporaryGo value (.ref kd) r = pure () := by intro _; with_unfolding_all rfl) :
    wpAny (model PySem.Challenge.rw_np0298_01.row.prog w) A (subscriptTail value slice (.ref kd) (.str x t)) Q E s := by
  refine W.opn fun es n t1 t2 o kvs a1 a2 a3 a4 a5 a6 a7 a8 a9 b1 b2 b3 b4 => ?_
  obtain ⟨u, hu⟩ := hv kvs b4
  exact kda_item (knd := PySem.strKind _ _) N a9 b2 (strKind_is _ _ _ _) hu (h _ _) hs hg
end
/-- world.keywords = {} -/
theorem wk_fresh {w w' : World} {A : Around} {E : Value → Shared → Prop} {s : Shared} {h₀ : Heap} {L : Addr} {m : Str → Option Value} {news : List (Addr × Obj)} {wv : Value} {kd : Addr} {o : Obj} {wd ml : Int} {Q : Unit → Shared → Prop}
    (F : Fr h₀ L s.heap m) (X : (hd.heap_1 w'.params).In h₀) (N : News h₀ L s.heap ((kd, o) :: news)) (W : Wrd news wv wd ml) (hk : ∀ p ∈ news, p.1 ≠ kd) (lo : (kd == sysModules) = false) (hd' : o.IsDictOf (PySem.strKind PySem.Challenge.rw_np0298_01.row.prog w) [])
    (h : ∀ h' tk ns' p d, wv = .ref p → Fr h₀ L h' m → News h₀ L h' ns' → WrdK w p d kd (fun kvs => kvs = []) ns' wd ml → KeepD ((kd, o) :: news) ns' → Q () { s with heap := h', toks := tk }) :
    wpAny (model PySem.Challenge.rw_np0298_01.row.prog w) A (setAttr wv "keywords" (.ref kd)) Q E s := by
  obtain ⟨p, d', es', n, t1, t2, rfl, a1, a2, a3, a4, a5, a6, u, z3⟩ := W
  have N1 : News h₀ L s.heap ((d', dictOf es' n) :: except d' ((kd, o) :: news)) := nsub N fun q hq => by
    rcases List.mem_cons.mp hq with rfl | hq
    · exact .tail _ a2
    · exact (mem_except.mp hq).1
  have hx : ∀ p ∈ except d' ((kd, o) :: news), p.1 ≠ d' := fun p hp => (mem_except.mp hp).2
  have I := InstAt.of_news N (.tail _ a1) (.tail _ a2)
  have hpd : p ≠ d' := ne_of_obj N (.tail _ a1) (.tail _ a2) (by simp)
  have hdk : d' ≠ kd := hk _ a2
  revert X
  k_fill
  intro X
  refine' set_dict F X N1 I rfl ?a ?b ?c ?d ?e rfl (Upd.head hx) ?f ?_
  case a => k_is
  case b => k_is
  case c => k_is
  case d => k_is
  case e => rw [z3]; rfl
  case f => rw [len_put _ _ _ _ _ (by rw [z3]; rfl) a3 _ z3]; omega
  intro h' F' N'
  refine h _ _ _ p d' rfl F' N' ⟨_, _, t1, t2, o, [], .tail _ (mem_except.mpr ⟨.tail _ a1, hpd⟩), .head _, ?_, ?_, getL_put_other (by decide +kernel) _ _ a5, getL_put_other (by decide +kernel) _ _ a6, getL_put_same _ _ _ _ _, hdk, .tail _ (mem_except.mpr ⟨.head _, Ne.symm hdk⟩), lo, hd', Nat.zero_le _, rfl⟩ ?_
  · rw [refKey_put]; exact a3
  · rw [len_put _ _ _ _ _ (by rw [z3]; rfl) a3 _ z3]; omega
  · intro q hq hn
    refine .tail _ (mem_except.mpr ⟨hq, fun e => ?_⟩)
    obtain ⟨qa, qo⟩ := q
    obtain rfl : qa = d' := e
    obtain rfl := same_obj N hq (.tail _ a2)
    exact hn _ _ rfl

end

section
theorem rest_ind {prog : Program} {w : World} {A : Around} {E : Value → Shared → Prop} {s : Shared} {env : Env} {h₀ : Heap} {target : Expr} {body : List Stmt} {Q : Flow → Shared → Prop} {I : Addr} {c : String} {keep : List (Addr × Obj)}
    (J : Nat → (Str → Option Value) → List (Addr × Obj) → Prop) (n : Nat)
    (turn : ∀ i k x m news T t h tk oI, i < n → J i m news → IsTup h T #[.str k t, x] → Fr h₀ env.locals h m → oI.cls = .type c → News h₀ env.locals h ((I, oI) :: news) →
      wpAny (model prog w) A (assign target env (.ref T)) (fun _ s₂ => wpAny (model prog w) A (execs body env) (UnrPostW h₀ env.locals { s with heap := h, toks := tk } [(I, oI)] (fun m' n' => SubL keep n' ∧ J (i + 1) m' n') Q) E s₂) E { s with heap := h, toks := tk })
    (done : ∀ m news h tk, J n m news → Fr h₀ env.locals h m → News h₀ env.locals h news → Q .next { s with heap := h, toks := tk }) :
    ∀ (kvs : List (Str × Value)) i m news, i + kvs.length = n → J i m news → ItemsRest prog w A E h₀ env target body Q s [(I, c)] keep (kvs.map fun p => Itm.pair (kyVal (PyData.str p.1)) p.2) m news := by
  intro kvs
  induction kvs with
  | nil =>
    intro i m news hi hJ
    obtain rfl : i = n := hi
    exact ItemsRest.zero fun h tk F N => done m news h tk hJ F N
  | cons p r ih =>
    intro i m news hi hJ
    refine ItemsRest.pair fun T t h tk hT F => AllObj.cons fun oI hc => AllObj.nil fun N => ?_
    refine wpAny_mono (turn i p.1 p.2 m news T t h tk oI (by rw [List.length_cons] at hi; omega) hJ hT F hc N) (fun _ s₂ q => wpAny_mono q (fun f s₃ q => ?_) fun _ _ e => e) fun _ _ e => e
    have go : UnrEndW h₀ env.locals { s with heap := h, toks := tk } [(I, oI)] (fun m' n' => SubL keep n' ∧ J (i + 1) m' n') s₃ → UnrEndW h₀ env.locals { s with heap := h, toks := tk } [(I, oI)] (fun m' n' => SubL keep n' ∧ ItemsRest prog w A E h₀ env target body Q s [(I, c)] keep (r.map fun p => Itm.pair (kyVal (PyData.str p.1)) p.2) m' n') s₃ := by
      rintro ⟨h', tk', m', n', e, F', N', ne, sub, hJ'⟩
      exact ⟨h', tk', m', n', e, F', N', ne, sub, ih (i + 1) m' n' (by rw [List.length_cons] at hi; omega) hJ'⟩
    cases f with
    | ret v => exact q
    | brk => exact q
    | next => exact go q
    | cont => exact go q
theorem strKey {prog : Program} {w : World} : ∀ (k : Str) (v : Value), (PySem.strKind prog w).is k v = true → ∃ t, v = kyVal (PyData.str k) t := by
  intro k v h
  cases v <;> simp [PySem.strKind, Value.isStrOf] at h
  rename_i x t
  exact ⟨t, by rw [← h]; rfl⟩
/-- what stands between the turns -/
noncomputable def JB (w : World) (p d kd : Addr) (wd ml : Int) (I : Addr) (it : Addr × Obj) (ns1 : List (Addr × Obj)) (n0 : Nat) (m₀ : Str → Option Value) (i : Nat) (m : Str → Option Value) (news : List (Addr × Obj)) : Prop :=
  (∃ u1 u2, m = fun y => if y = Str.ofString "value" then u1 else if y = Str.ofString "name" then u2 else m₀ y) ∧ WrdK w p d kd (fun kvs => kvs.length ≤ n0 + i) news wd ml ∧ KeepD ns1 news ∧ it ∈ news ∧ it.1 ≠ kd ∧ ∀ q ∈ news, q.1 ≠ I
theorem JB.start {w : World} {p d kd : Addr} {wd ml : Int} {I : Addr} {it : Addr × Obj} {ns1 news : List (Addr × Obj)} {n0 : Nat} {m₀ : Str → Option Value} (W : WrdK w p d kd (fun kvs => kvs.length ≤ n0) news wd ml) (K : KeepD ns1 news) (h1 : it ∈ news) (h2 : it.1 ≠ kd) (h3 : ∀ q ∈ news, q.1 < I) :
    JB w p d kd wd ml I it ns1 n0 m₀ 0 m₀ news := by
  refine ⟨⟨m₀ (Str.ofString "value"), m₀ (Str.ofString "name"), ?_⟩, W, K, h1, h2, fun q hq => Nat.ne_of_lt (h3 q hq)⟩
  funext y
  by_cases e1 : y = Str.ofString "value"
  · simp only [if_pos e1]; rw [e1]
  · by_cases e2 : y = Str.ofString "name"
    · simp only [if_neg e1, if_pos e2]; rw [e2]
    · simp only [if_neg e1, if_neg e2]
theorem JB.next {w : World} {p d kd : Addr} {wd ml : Int} {I : Addr} {it : Addr × Obj} {ns1 news : List (Addr × Obj)} {n0 i : Nat} {m₀ m' : Str → Option Value} {o oI : Obj} {h₀ h' : Heap} {L : Addr} {s₁ : Shared} {tk : Nat}
    (F : Fr h₀ L h' m') (N : News h₀ L h' ((kd, o) :: except kd ((I, oI) :: news))) (hm : ∃ u1 u2, m' = fun y => if y = Str.ofString "value" then u1 else if y = Str.ofString "name" then u2 else m₀ y)
    (W : WrdK w p d kd (fun kvs => kvs.length ≤ n0 + i + 1) ((kd, o) :: except kd ((I, oI) :: news)) wd ml) (hW : (∃ o, (p, o) ∈ news) ∧ (∃ o, (d, o) ∈ news) ∧ ∃ o, (kd, o) ∈ news) (K : KeepD ns1 news) (K' : KeepD ((I, oI) :: news) ((kd, o) :: except kd ((I, oI) :: news))) (h1 : it ∈ news) (h2 : it.1 ≠ kd) (h3 : ∀ q ∈ news, q.1 ≠ I) :
    UnrEndW h₀ L s₁ [(I, oI)] (fun m' n' => SubL [it] n' ∧ JB w p d kd wd ml I it ns1 n0 m₀ (i + 1) m' n') { s₁ with heap := h', toks := tk } := by
  obtain ⟨⟨op, w1⟩, ⟨od, w2⟩, ⟨ok, w3⟩⟩ := hW
  have hIk : I ≠ kd := fun e => h3 _ w3 e.symm
  have sub : ∀ q ∈ (kd, o) :: except kd ((I, oI) :: news), q.1 ≠ I → q ∈ (kd, o) :: except kd news := by
    intro q hq hn
    rcases List.mem_cons.mp hq with rfl | hq
    · exact .head _
    · obtain ⟨z1, z2⟩ := mem_except.mp hq
      rcases List.mem_cons.mp z1 with rfl | z1
      · exact absurd rfl hn
      · exact .tail _ (mem_except.mpr ⟨z1, z2⟩)
  refine ⟨h', tk, m', (kd, o) :: except kd news, rfl, F, ?_, ?_, ⟨.tail _ (mem_except.mpr ⟨h1, h2⟩), trivial⟩, hm, ?_, ?_, .tail _ (mem_except.mpr ⟨h1, h2⟩), h2, ?_⟩
  · intro q hq
    rcases List.mem_cons.mp hq with rfl | hq
    · exact N _ (.tail _ (mem_except.mpr ⟨.head _, hIk⟩))
    · rcases List.mem_cons.mp hq with rfl | hq
      · exact N _ (.head _)
      · exact N _ (.tail _ (mem_except.mpr ⟨.tail _ (mem_except.mp hq).1, (mem_except.mp hq).2⟩))
  · intro q hq r hr e
    rw [List.mem_singleton.mp hr] at e
    rcases List.mem_cons.mp hq with rfl | hq
    · exact hIk e.symm
    · exact h3 _ (mem_except.mp hq).1 e
  · refine W.sub fun q hq hc => sub q hq fun e => ?_
    rcases hc with hc | hc | hc
    · exact h3 _ w1 (hc.symm.trans e)
    · exact h3 _ w2 (hc.symm.trans e)
    · exact hIk (e.symm.trans hc)
  · intro q hq hn
    have hq' := K q hq hn
    exact sub q (K' q (.tail _ hq') hn) (h3 q hq')
  · intro q hq
    rcases List.mem_cons.mp hq with rfl | hq
    · exact fun e => hIk e.symm
    · exact h3 _ (mem_except.mp hq).1
theorem stored_len {kvs : List (Str × Value)} {x : Str} {v : Value} : (stored kvs x v).length ≤ kvs.length + 1 := stored_length_le kvs x v
section
local macro_rules | `(tactic| walk_at "exec For Tuple Call cons nil") => forR "For_turns" "$?" ""
local macro_rules | `(tactic| walk_at "getAttr ref") => do
  sq (wordK "here") [← firstR [← atR "getAttr _ @keywords _" (← sq (← rfw "wk_keywords" "FXNW?" "WwFaXaNa") [← inC true "tk7"]),
    ← atR "getAttr _ @most_length _" (← sq (← rf "wrd_length" "FXNW?" "") ([← `(tactic| (case W => exact WrdK.wrd (by with_reducible assumption)))] ++ (← csC tacC "FaXaNa".toList) ++ [wordK "whole", ← inC true "tk7 tk8"]))]]
local macro_rules | `(tactic| k_steps) => steps [] ["setAttr _ _ _", "setItem _ _ _", "pyIter _"]
theorem c_begin (w : World) (wv : Value) (wd ml : Int) : Tells w 650 650 323 [wv] (fun ns => Wrd ns wv wd ml) (fun ns r ns' => ∃ p d kd, wv = .ref p ∧ WrdK w p d kd (fun kvs => kvs.length ≤ 20) ns' wd ml ∧ KeepD ns ns') := by
  unfold Tells
  k_fill
  intro cn sn sg sc sm a ccd cl outer A₀ base h₀ L m news s Q E mean mg mb B F X N T W hret
  k_steps
  refine' wk_fresh ?F ?X ?N W ?hk ?lo ?hd ?_
  case F => k_asm
  case X => k_asm
  case N => k_asm
  case lo => with_reducible assumption
  case hd => with_reducible assumption
  case hk => exact fun p hp => Nat.ne_of_lt ((by assumption : ∀ p : Addr × Obj, p ∈ news → p.1 < _) p hp)
  intro h1 tk1 ns1 p d e F1 N1 W1 K1
  subst e
  k_steps
  have W2 : WrdK w p d _ (fun kvs => kvs.length ≤ 0) ns1 wd ml := W1.imp fun kvs e => by rw [e]; exact Nat.le_refl _
  clear W1 W
  (rename Fr _ _ _ _ => lF)
  (rename News _ _ _ (_ :: _ :: ns1) => lN)
  have hn : kvs9.length = 12 := by have := congrArg List.length hk9; simpa [openK] using this
  refine' kta_items (knd := PySem.strKind _ _) (enc := PyData.str) rfl lF lN ⟨_, (lN _ (.head _)).1, rfl, rfl⟩ (.tail _ (.head _)) hd9 strKey rfl ?_
  intro I lI
  refine rest_ind (JB w p d _ wd ml I _ ns1 0 _) _ ?_ ?_ _ 0 _ _ (by rw [Nat.zero_add]) (JB.start (W2.more fun q hq => .tail _ (.tail _ hq)) (KeepD.of fun q hq => .tail _ (.tail _ hq)) (.tail _ (.head _)) ?_ lI)
  case refine_3 =>
    obtain ⟨-, -, ok, w3⟩ := W2.mems
    exact Nat.ne_of_gt (l9 _ w3)
  case refine_1 =>
    intro i k x m₁ nx T₁ t₁ h tk oI hi S9 hT F₁ hc N₁
    refine hideG fun H9 hG9 => ?_
    obtain ⟨⟨u1, u2, rfl⟩, W3, K3, hit, hne, hI⟩ := S9
    refine hG9 ?_
    clear hG9 H9
    have W4 := W3.more (ns' := (I, oI) :: nx) fun q hq => .tail _ hq
    k_steps
    refine' wk_store (P' := fun kvs => kvs.length ≤ 0 + i + 1) ?F ?N W4 ?hs ?_
    case F => k_asm
    case N => k_asm
    case hs =>
      intro kvs hk _
      have := stored_len (kvs := kvs) (x := k) (v := x)
      exact ⟨by omega, by omega⟩
    intro h5 tk5 o5 F5 N5 W5 K5
    k_steps
    refine JB.next F5 N5 ⟨some x, some (.str k t₁), ?_⟩ W5 W3.mems K3 K5 hit hne hI
    funext y
    by_cases e1 : y = Str.ofString "value"
    · simp only [if_pos e1]
    · by_cases e2 : y = Str.ofString "name"
      · simp only [if_neg e1, if_pos e2]
      · simp only [if_neg e1, if_neg e2]
  intro m₁ nx h tk S9 F₁ N₁
  refine hideG fun H9 hG9 => ?_
  obtain ⟨⟨u1, u2, rfl⟩, Wx, WxK, -, -, -⟩ := S9
  refine hG9 ?_
  clear hG9 H9
  replace Wx : WrdK w p d _ (fun kvs => kvs.length ≤ 12) nx wd ml := Wx.imp fun kvs e => by omega
  clear lF lN W2
  k_steps
  (rename Fr _ _ _ _ => lF)
  (rename News _ _ _ (_ :: _ :: nx) => lN)
  have hn : kvs9.length = 7 := by have := congrArg List.length hk9; simpa [toldK] using this
  refine' kta_items (knd := PySem.strKind _ _) (enc := PyData.str) rfl lF lN ⟨_, (lN _ (.head _)).1, rfl, rfl⟩ (.tail _ (.head _)) hd9 strKey rfl ?_
  intro I lI
  refine rest_ind (JB w p d _ wd ml I _ nx 12 _) _ ?_ ?_ _ 0 _ _ (by rw [Nat.zero_add]) (JB.start (Wx.more fun q hq => .tail _ (.tail _ hq)) (KeepD.of fun q hq => .tail _ (.tail _ hq)) (.tail _ (.head _)) ?_ lI)
  case refine_3 =>
    obtain ⟨-, -, ok, w3⟩ := Wx.mems
    exact Nat.ne_of_gt (l9 _ w3)
  case refine_1 =>
    intro i k x m₁ ny T₁ t₁ h tk oI hi S9 hT F₁ hc N₁
    refine hideG fun H9 hG9 => ?_
    obtain ⟨⟨u1, u2, rfl⟩, W3, K3, hit, hne, hI⟩ := S9
    refine hG9 ?_
    clear hG9 H9
    have W4 := W3.more (ns' := (I, oI) :: ny) fun q hq => .tail _ hq
    k_steps
    refine' wk_store (P' := fun kvs => kvs.length ≤ 12 + i + 1) ?F ?N W4 ?hs ?_
    case F => k_asm
    case N => k_asm
    case hs =>
      intro kvs hk _
      have := stored_len (kvs := kvs) (x := k) (v := x)
      exact ⟨by omega, by omega⟩
    intro h5 tk5 o5 F5 N5 W5 K5
    k_steps
    refine JB.next F5 N5 ⟨some x, some (.str k t₁), ?_⟩ W5 W3.mems K3 K5 hit hne hI
    funext y
    by_cases e1 : y = Str.ofString "value"
    · simp only [if_pos e1]
    · by_cases e2 : y = Str.ofString "name"
      · simp only [if_neg e1, if_pos e2]
      · simp only [if_neg e1, if_neg e2]
  intro m₁ ny h tk S9 F₁ N₁
  refine hideG fun H9 hG9 => ?_
  obtain ⟨⟨u1, u2, rfl⟩, Wy, WyK, -, -, -⟩ := S9
  refine hG9 ?_
  clear hG9 H9
  replace Wy : WrdK w p d _ (fun kvs => kvs.length ≤ 19) ny wd ml := Wy.imp fun kvs e => by omega
  clear lF lN Wx
  k_steps
  refine' wk_store (P' := fun kvs => kvs.length ≤ 20) ?F ?N Wy ?hs ?_
  case F => k_asm
  case N => k_asm
  case hs =>
    intro kvs hk _
    exact ⟨Nat.le_trans stored_len (by omega), Nat.le_trans stored_len (by omega)⟩
  intro h5 tk5 o5 F5 N5 W5 K5
  k_steps
  exact hret _ _ _ _ (by with_reducible assumption) (by with_reducible assumption) ⟨p, d, _, rfl, W5, ((KeepD.of fun q hq => List.mem_cons_of_mem _ hq).trans K1).trans (WxK.trans (WyK.trans K5))⟩
end

end

section
theorem eq_strB {prog : Program} {w : World} {A : Around} {E : Value → Shared → Prop} {s : Shared} {Q : Value → Shared → Prop} {x y : Str} {t t' : Tok} {b : Bool} (hb : (x == y) = b) (h : Q (.bool b) s) : wpAny (model prog w) A (compareOp .Eq (.str x t) (.str y t')) Q E s := eq_str (by rw [hb]; exact h)
theorem kw_inB {w : World} {A : Around} {E : Value → Shared → Prop} {s : Shared} {h₀ : Heap} {L d : Addr} {news : List (Addr × Obj)} {o : Obj} {kvs : List (Str × Value)} {ks : List Str} {x : Str} {t : Tok} {Q : Value → Shared → Prop} {b : Bool} (N : News h₀ L s.heap news) (hm : (d, o) ∈ news) (hd : o.IsDictOf (PySem.strKind PySem.Challenge.rw_np0298_01.row.prog w) kvs) (lo : (d == sysModules) = false) (hk : kvs.map (·.1) = ks) (hb : ks.contains x = b) (h : Q (.bool b) { s with toks := s.toks + 1 }) :
    wpAny (model PySem.Challenge.rw_np0298_01.row.prog w) A (compareOp .In (.str x t) (.ref d)) Q E s := kw_in N hm hd lo hk (by rw [hb]; exact h)
theorem c_iskB (w : World) (x : Str) (t : Tok) {b : Bool} (hb : isK x = b) : Tells w 680 800 330 [.str x t] (fun _ => True) (fun ns r ns' => r = .bool b ∧ ∀ p ∈ ns, p ∈ ns') := by
  subst hb
  exact c_isk w x t
theorem c_ispB (w : World) (x : Str) (t : Tok) {b : Bool} (hb : (isK x && !openK.contains x) = b) : Tells w 670 750 337 [.str x t] (fun _ => True) (fun ns r ns' => r = .bool b ∧ ∀ p ∈ ns, p ∈ ns') := by
  subst hb
  exact c_isp w x t
theorem RaisedD.sub {base G h : Heap} {l : List Env} {e d : Addr} {ns ns' : List (Addr × Obj)} (R : RaisedD base G l e d ns h) (k : ∀ q ∈ ns', q ∈ ns) : RaisedD base G l e d ns' h := by
  obtain ⟨B, a, b, c, f⟩ := R
  exact ⟨B, a, b, fun q hq => c q (k q hq), f⟩
theorem consSub {α : Type} {x : α} {l l' : List α} (k : ∀ q ∈ l, q ∈ l') : ∀ q ∈ x :: l, q ∈ x :: l' := by
  intro q hq
  rcases List.mem_cons.mp hq with rfl | hq
  · exact .head _
  · exact .tail _ (k q hq)
/-- a pattern whose node is a tuple of one word -/
noncomputable def PatNode (w : World) (ns : List (Addr × Obj)) (r : Value) (x : Str) : Prop :=
  ∃ p d tp t1 t2 c, r = .ref p ∧ (p, instObj 68 d) ∈ ns ∧ (d, dictOf [ent w "node" t1 (.ref tp)] 1) ∈ ns ∧ (tp, tupO [.str x t2] c) ∈ ns

end
local macro_rules | `(tactic| walk_at "my wk") => `(tactic| repeat (first | with_reducible assumption | (apply WrdK.more; focus (with_reducible assumption)) | (refine WrdK.more (fun q hq => List.mem_cons_of_mem _ hq) ?_)))
local macro_rules | `(tactic| walk_at "compareOp Eq str str") => do sq (wordK "here") [← rf "eq_strB" "x?" "xw"]
local macro_rules | `(tactic| walk_at "call ref") => use9 330 "c_iskB" "___b" "bwKp" false "e9 e8" "e9" false
local macro_rules | `(tactic| walk_at "call ref") => use9 337 "c_ispB" "___b" "bwKp" false "e9 e8" "e9" false
local macro_rules | `(tactic| walk_at "compareOp In str ref") => do dfltR (← rf "kw_inB" "Nmdlkb?" "dwNammlwkwbw")
local macro_rules | `(tactic| walk_at "getAttr ref") => do
  sq (wordK "here") [← firstR [← atR "getAttr _ @keywords _" (← sq (← rf "wk_keywords" "FXNW?" "FaXaNa") [← `(tactic| (case W => walk_at "my wk")), wordK "whole", ← inC true "tk7"]),
    ← atR "getAttr _ @width _" (← sq (← rf "wrd_width" "FXNW?" "FaXaNa") [← `(tactic| (case W => apply WrdK.wrd; focus (walk_at "my wk"))), wordK "whole", ← inC true "tk7 tk8"])]]

section
theorem c_kgo (w : World) (p d kd : Addr) (x : Str) (k wd ml : Int) (tx : Tok) (hx1 : (x == Str.ofString "ALPHABET") = false) (hx2 : patK.contains x = false) (hx3 : isK x = true) (hx4 : (x == Str.ofString "FNCLEVEL") = false) :
    Tells w 660 700 344 [.ref p, .str x tx] (fun ns => WrdK w p d kd (fun kvs => ∃ t, valueAt kvs x = some (.int k t)) ns wd ml) (fun ns r ns' => (∃ t, r = .int k t) ∧ ∀ p ∈ ns, p ∈ ns') := by
  unfold Tells
  k_fill
  intro cn sn sg sc sm a ccd cl outer A₀ base h₀ L m news s Q E mean mg mb B F X N T W hret
  k_steps
  refine' wk_item (P := fun kvs => ∃ t, valueAt kvs x = some (.int k t)) ?N ?W (fun kvs h => h) ?_ ?hs ?hg
  case N => k_asm
  case W => walk_at "my wk"
  case hs => with_unfolding_all rfl
  case hg => intro _; with_unfolding_all rfl
  intro t8 tk8
  k_steps
  exact hret _ _ _ _ (by with_reducible assumption) (by with_reducible assumption) ⟨⟨_, rfl⟩, fun q hq => by walk_at "my uq"⟩
theorem c_kga (w : World) (wv : Value) (tx : Tok) : Tells w 660 700 344 [wv, .str (Str.ofString "ALPHABET") tx] (fun _ => True) (fun ns r ns' => (∃ x t, r = .str x t ∧ x.cps.toList = List.range 256) ∧ ∀ p ∈ ns, p ∈ ns') := by
  have hx1 : (Str.ofString "ALPHABET" == Str.ofString "ALPHABET") = true := by decide +kernel
  unfold Tells
  k_fill
  intro cn sn sg sc sm a ccd cl outer A₀ base h₀ L m news s Q E mean mg mb B F X N T hpre hret
  k_steps
  exact hret _ _ _ _ (by with_reducible assumption) (by with_reducible assumption) ⟨⟨_, _, rfl, by assumption⟩, fun q hq => by walk_at "my uq"⟩
theorem c_kgr (w : World) (wv : Value) (tx : Tok) : Tells w 660 700 344 [wv, .str (Str.ofString "ARB") tx] (fun _ => True) (fun ns r ns' => PatNode w ns' r (Str.ofString "arb") ∧ ∀ p ∈ ns, p ∈ ns') := by
  have hx1 : (Str.ofString "ARB" == Str.ofString "ALPHABET") = false := by decide +kernel
  have hx2 : patK.contains (Str.ofString "ARB") = true := by decide +kernel
  unfold Tells
  k_fill
  intro cn sn sg sc sm a ccd cl outer A₀ base h₀ L m news s Q E mean mg mb B F X N T hpre hret
  k_steps
  refine' kda_item (knd := PySem.strKind _ _) ?N m9 hd9 (strKind_is _ _ _ _) hv9 ?_ ?hs ?hg
  case N => k_asm
  case hs => with_unfolding_all rfl
  case hg => intro _; with_unfolding_all rfl
  k_steps
  refine hret _ _ _ _ (by with_reducible assumption) (by with_reducible assumption) ⟨⟨_, _, tp9, _, t9, c9, rfl, .head _, .tail _ (.head _), .tail _ (.tail _ mt9)⟩, fun q hq => by walk_at "my uq"⟩
theorem c_kgn (w : World) (wv : Value) (tx : Tok) : TellsX w 660 700 344 [wv, .str (Str.ofString "NONE") tx] (fun _ => True) (fun _ _ _ => False) (fun k => k = 7) := by
  have hx1 : (Str.ofString "NONE" == Str.ofString "ALPHABET") = false := by decide +kernel
  have hx2 : patK.contains (Str.ofString "NONE") = false := by decide +kernel
  have hx3 : isK (Str.ofString "NONE") = false := by decide +kernel
  unfold TellsX
  k_fill
  intro cn sn sg sc sm a ccd cl outer A₀ base h₀ L m news s Q E mean mg mb B F X N T hpre hret hX
  k_steps
  (((rename (hd.heap_1 _).In _ => zX); (rename Below _ _ _ _ => zB); refine raiseS_of zX zF zN ?_; refine lv_first zB zF zN (ExcNe zN zr) rfl ?_; intro zh zR zU))
  exact hX _ _ 7 _ _ _ _ _ _ _ rfl (by with_reducible assumption) zU (zR.sub (consSub fun q hq => by walk_at "my uq"))

end

section
theorem valueAt_put (kvs : List (Str × Value)) (x : Str) (v : Value) : valueAt (stored kvs x v) x = some v := by
  unfold stored
  split
  · rename_i h
    induction kvs with
    | nil => simp at h
    | cons a r ih =>
      unfold valueAt at ih ⊢
      rw [List.map_cons, List.find?_cons]
      by_cases e : a.1 = x
      · simp [e]
      · simp only [e, if_false, decide_false]
        exact ih (by simpa [e] using h)
  · rename_i h
    have h' : ∀ a ∈ kvs, ¬ a.1 = x := fun a ha e => h (List.any_eq_true.mpr ⟨a, ha, by simpa using e⟩)
    unfold valueAt
    rw [List.find?_append]
    have : kvs.find? (fun kv => decide (kv.1 = x)) = none := by
      rw [List.find?_eq_none]
      intro a ha
      simpa using h' a ha
    rw [this]
    simp
section
local macro_rules | `(tactic| k_steps) => steps [226, 212] ["setAttr _ _ _", "setItem _ _ _"]
theorem c_kso (w : World) (p d kd : Addr) (x y : Str) (n wd ml : Int) (tx ty : Tok) (b : Bool) (hx3 : isK x = true) (hx5 : (isK x && !openK.contains x) = false) (hx6 : (x == Str.ofString "MAXLNGTH") = b) (h1 : 5 ≤ wd) (h2 : wd ≤ 40)
    (hv : V.ok (.str y)) (hw : (V.str y).whole wd = some n) (hn : 0 ≤ n) :
    Tells w 655 680 351 [.ref p, .str x tx, .str y ty] (fun ns => WrdK w p d kd (fun kvs => kvs.length ≤ 20) ns wd ml)
      (fun ns r ns' => r = .none ∧ WrdK w p d kd (fun kvs => ∃ t, valueAt kvs x = some (.int n t)) ns' wd (if b then n else ml) ∧ KeepD ns ns') := by
  have hs : ∀ (t : Tok) (kvs : List (Str × Value)), kvs.length ≤ 20 → kvs.length ≤ 60 → (∃ t', valueAt (stored kvs x (.int n t)) x = some (.int n t')) ∧ (stored kvs x (.int n t)).length ≤ 60 := fun t kvs h _ => ⟨⟨t, valueAt_put _ _ _⟩, Nat.le_trans stored_len (by omega)⟩
  unfold Tells
  k_fill
  intro cn sn sg sc sm a ccd cl outer A₀ base h₀ L m news s Q E mean mg mb B F X N T W hret
  cases b
  · k_steps
    ((((try k_fold); refine' useX (c_needw w (.str y) (.str y ty) wd _ h1 h2 hv) ⟨ty, rfl⟩ ?_ ?_); rotate_left 1; (intro zE zD zK zt1 zt2 zt3 zv zg zh0 ztk zk zFg zU0 zR0); rotate_right 1; rintro v9 n9 h9 tk9 F9 N9 ⟨n', t', hw', e9, e8⟩; subst e9; subst e8))
    rotate_left 1
    · exact absurd (hw.symm.trans zk.2) (by nofun)
    obtain rfl := Option.some.inj (hw.symm.trans hw')
    k_steps
    refine' wk_store (P' := fun kvs => ∃ t, valueAt kvs x = some (.int n t)) ?F ?N ?W (hs _) ?_
    case F => k_asm
    case N => k_asm
    case W => walk_at "my wk"
    intro h5 tk5 o5 F5 N5 W5 K5
    k_steps
    exact hret _ _ _ _ (by with_reducible assumption) (by with_reducible assumption) ⟨rfl, W5, (KeepD.of fun q hq => by walk_at "my uq").trans K5⟩
  · k_steps
    ((((try k_fold); refine' useX (c_needs w (.str y) (.str y ty) wd _ h1 h2 hv) ⟨ty, rfl⟩ ?_ ?_); rotate_left 1; (intro zE zD zK zt1 zt2 zt3 zv zg zh0 ztk zk zFg zU0 zR0); rotate_right 1; rintro v9 n9 h9 tk9 F9 N9 ⟨n', t', hw', hp', e9, e8⟩; subst e9; subst e8))
    rotate_left 1
    · exfalso
      rcases zk with ⟨_, e⟩ | ⟨_, n', e, hlt⟩
      · rw [hw] at e
        cases e
      · rw [hw] at e
        cases e
        omega
    obtain rfl := Option.some.inj (hw.symm.trans hw')
    k_steps
    refine' wk_length (ml' := n) ?Fa ?Xa ?Na ?Wa ?_
    case Fa => k_asm
    case Xa => k_asm
    case Na => k_asm
    case Wa => walk_at "my wk"
    intro h4 tk4 ns4 F4 N4 W4 K4
    k_steps
    ((((try k_fold); refine' useX (c_needw w (.str y) (.str y ty) wd _ h1 h2 hv) ⟨ty, rfl⟩ ?_ ?_); rotate_left 1; (intro zE zD zK zt1 zt2 zt3 zv zg zh0 ztk zk zFg zU0 zR0); rotate_right 1; rintro v9 n9 h9 tk9 F9 N9 ⟨n', t', hw', e9, e8⟩; subst e9; subst e8))
    rotate_left 1
    · exact absurd (hw.symm.trans zk.2) (by nofun)
    obtain rfl := Option.some.inj (hw.symm.trans hw')
    k_steps
    refine' wk_store (P' := fun kvs => ∃ t, valueAt kvs x = some (.int n t)) ?Fb ?Nb ?Wb (hs _) ?_
    case Fb => k_asm
    case Nb => k_asm
    case Wb => walk_at "my wk"
    intro h5 tk5 o5 F5 N5 W5 K5
    k_steps
    exact hret _ _ _ _ (by with_reducible assumption) (by with_reducible assumption) ⟨rfl, W5, (KeepD.of fun q hq => by walk_at "my uq").trans (K4.trans K5)⟩
theorem c_ksx (w : World) (p d kd : Addr) (P : List (Str × Value) → Prop) (x y : Str) (wd ml : Int) (tx ty : Tok) (b : Bool) (hx3 : isK x = true) (hx5 : (isK x && !openK.contains x) = false) (hx6 : (x == Str.ofString "MAXLNGTH") = b) (h1 : 5 ≤ wd) (h2 : wd ≤ 40)
    (hv : V.ok (.str y)) (hw : (V.str y).whole wd = none) :
    TellsX w 655 680 351 [.ref p, .str x tx, .str y ty] (fun ns => WrdK w p d kd P ns wd ml) (fun _ _ _ => False) (fun k => k = 1) := by
  unfold TellsX
  k_fill
  intro cn sn sg sc sm a ccd cl outer A₀ base h₀ L m news s Q E mean mg mb B F X N T W hret hX
  cases b
  · k_steps
    ((((try k_fold); refine' useX (c_needw w (.str y) (.str y ty) wd _ h1 h2 hv) ⟨ty, rfl⟩ ?_ ?_); rotate_left 1; (intro zE zD zK zt1 zt2 zt3 zv zg zh0 ztk zk zFg zU0 zR0); rotate_right 1; rintro v9 n9 h9 tk9 F9 N9 ⟨n', t', hw', e9, e8⟩; subst e9; subst e8))
    · exact absurd (hw.symm.trans hw') (by nofun)
    (((rename Below _ _ _ _ => zB); refine lv_on zB zFg zR0 zU0 ?_; intro zh zR zU))
    exact hX _ _ zK _ _ _ _ _ _ _ zk.1 (by with_reducible assumption) zU (zR.sub (consSub fun q hq => by walk_at "my uq"))
  · k_steps
    ((((try k_fold); refine' useX (c_needs w (.str y) (.str y ty) wd _ h1 h2 hv) ⟨ty, rfl⟩ ?_ ?_); rotate_left 1; (intro zE zD zK zt1 zt2 zt3 zv zg zh0 ztk zk zFg zU0 zR0); rotate_right 1; rintro v9 n9 h9 tk9 F9 N9 ⟨n', t', hw', hp', e9, e8⟩; subst e9; subst e8))
    · exact absurd (hw.symm.trans hw') (by nofun)
    (((rename Below _ _ _ _ => zB); refine lv_on zB zFg zR0 zU0 ?_; intro zh zR zU))
    have zk1 : zK = 1 := by
      rcases zk with ⟨e, _⟩ | ⟨_, n', e, hlt⟩
      · exact e
      · rw [hw] at e
        cases e
    exact hX _ _ zK _ _ _ _ _ _ _ zk1 (by with_reducible assumption) zU (zR.sub (consSub fun q hq => by walk_at "my uq"))
theorem c_ksp (w : World) (wv v : Value) (x : Str) (tx : Tok) (hx3 : isK x = true) (hx5 : (isK x && !openK.contains x) = true) :
    TellsX w 655 680 351 [wv, .str x tx, v] (fun _ => True) (fun _ _ _ => False) (fun k => k = 8) := by
  unfold TellsX
  k_fill
  intro cn sn sg sc sm a ccd cl outer A₀ base h₀ L m news s Q E mean mg mb B F X N T hpre hret hX
  k_steps
  (((rename (hd.heap_1 _).In _ => zX); (rename Below _ _ _ _ => zB); refine raiseS_of zX zF zN ?_; refine lv_first zB zF zN (ExcNe zN zr) rfl ?_; intro zh zR zU))
  exact hX _ _ 8 _ _ _ _ _ _ _ rfl (by with_reducible assumption) zU (zR.sub (consSub fun q hq => by walk_at "my uq"))
theorem c_ksn (w : World) (wv v : Value) (x : Str) (tx : Tok) (hx3 : isK x = false) :
    TellsX w 655 680 351 [wv, .str x tx, v] (fun _ => True) (fun _ _ _ => False) (fun k => k = 7) := by
  unfold TellsX
  k_fill
  intro cn sn sg sc sm a ccd cl outer A₀ base h₀ L m news s Q E mean mg mb B F X N T hpre hret hX
  k_steps
  (((rename (hd.heap_1 _).In _ => zX); (rename Below _ _ _ _ => zB); refine raiseS_of zX zF zN ?_; refine lv_first zB zF zN (ExcNe zN zr) rfl ?_; intro zh zR zU))
  exact hX _ _ 7 _ _ _ _ _ _ _ rfl (by with_reducible assumption) zU (zR.sub (consSub fun q hq => by walk_at "my uq"))
end

end

section
/-- the five keywords that the law sets -/
noncomputable def Five (x : Str) : Prop := (x == Str.ofString "ALPHABET") = false ∧ patK.contains x = false ∧ isK x = true ∧ (x == Str.ofString "FNCLEVEL") = false ∧ (isK x && !openK.contains x) = false
theorem five_of {x : Str} (h : x ∈ [Str.ofString "ANCHOR", Str.ofString "TRIM", Str.ofString "FULLSCAN", Str.ofString "STLIMIT", Str.ofString "MAXLNGTH"]) : Five x := by
  simp only [List.mem_cons, List.not_mem_nil, or_false] at h
  rcases h with rfl | rfl | rfl | rfl | rfl <;> exact ⟨by decide +kernel, by decide +kernel, by decide +kernel, by decide +kernel, by decide +kernel⟩
/-- the five keywords that the law finds protected -/
noncomputable def Told5 (x : Str) : Prop := isK x = true ∧ (isK x && !openK.contains x) = true
theorem told_of {x : Str} (h : x ∈ [Str.ofString "STNO", Str.ofString "STCOUNT", Str.ofString "ALPHABET", Str.ofString "ARB", Str.ofString "RTNTYPE"]) : Told5 x := by
  simp only [List.mem_cons, List.not_mem_nil, or_false] at h
  rcases h with rfl | rfl | rfl | rfl | rfl <;> exact ⟨by decide +kernel, by decide +kernel⟩
theorem pow16 {wd : Int} (h1 : 5 ≤ wd) : (16 : Int) ≤ 2 ^ (wd - 1).toNat := by
  have z : (2 : Nat) ^ 4 ≤ 2 ^ (wd - 1).toNat := Nat.pow_le_pow_right (by decide) (by omega)
  have y : ((2 ^ 4 : Nat) : Int) ≤ ((2 ^ (wd - 1).toNat : Nat) : Int) := Int.ofNat_le.mpr z
  rw [Int.natCast_pow] at y
  exact y
theorem small_read {x : Str} {ds : List Nat} {n wd : Int} (h1 : 5 ≤ wd) (e : x.cps.toList = ds) (hd : ds.length = 1 ∨ ds.length = 2) (ha : ds.all isDig = true) (hs : ∀ c ∈ ds, signed c = false ∧ c ≠ 45) (hn : numAcc ds = n) (h0 : 0 ≤ n) (h16 : n < 16) : readT x wd = some n := by
  have h2 := pow16 h1
  unfold readT readL
  rw [e]
  match ds, hd with
  | c :: r, hd =>
    have hc := hs c (.head _)
    have hl : ((c :: r).length : Int) ≤ 2 := by rcases hd with hd | hd <;> rw [hd] <;> decide
    simp only [hc.1, Bool.false_eq_true, if_false, if_neg hc.2]
    rw [if_neg (by rintro (q | q | q); cases q; omega; rw [ha] at q; cases q), hn]
    have hf : fitsB n wd = true := by
      unfold fitsB
      simp only [Bool.and_eq_true, decide_eq_true_eq]
      omega
    rw [if_pos hf]
theorem small_keys : ∀ k : Fin 16, ((Str.ofString (toString ((k.val : Nat) : Int))).length ≤ 100 ∧ ∀ c ∈ (Str.ofString (toString ((k.val : Nat) : Int))).cps.toList, c < 128) ∧ ((Str.ofString (toString ((k.val : Nat) : Int))).cps.toList.length = 1 ∨ (Str.ofString (toString ((k.val : Nat) : Int))).cps.toList.length = 2) ∧ (Str.ofString (toString ((k.val : Nat) : Int))).cps.toList.all isDig = true ∧ (∀ c ∈ (Str.ofString (toString ((k.val : Nat) : Int))).cps.toList, signed c = false ∧ c ≠ 45) ∧ numAcc (Str.ofString (toString ((k.val : Nat) : Int))).cps.toList = ((k.val : Nat) : Int) := by decide +kernel
theorem str_small {n wd : Int} (h0 : 0 ≤ n) (h16 : n < 16) (h1 : 5 ≤ wd) : V.ok (.str (Str.ofString (toString n))) ∧ (V.str (Str.ofString (toString n))).whole wd = some n := by
  obtain ⟨k, rfl⟩ := Int.eq_ofNat_of_zero_le h0
  have hk : k < 16 := by omega
  obtain ⟨a1, a2, a3, a4, a5⟩ := small_keys ⟨k, hk⟩
  exact ⟨a1, small_read h1 rfl a2 a3 a4 a5 h0 h16⟩
theorem x_none {wd : Int} : V.ok (.str (Str.ofString "x")) ∧ (V.str (Str.ofString "x")).whole wd = none := by
  refine ⟨⟨by decide +kernel, by decide +kernel⟩, ?_⟩
  show readT _ _ = none
  unfold readT readL
  rw [show (Str.ofString "x").cps.toList = [120] from by decide +kernel]
  have hs : signed 120 = false := by decide
  have ha : [120].all isDig = false := by decide
  simp only [hs, Bool.false_eq_true, if_false]
  rw [if_pos (.inr (.inr ha))]
theorem ne_of_data {h₀ h : Heap} {L a b : Addr} {o o' : Obj} {ns : List (Addr × Obj)} (N : News h₀ L h ns) (h1 : (a, o) ∈ ns) (h2 : (b, o') ∈ ns) (h : o.data ≠ o'.data) : a ≠ b := by
  rintro rfl
  exact h (congrArg Obj.data (same_obj N h1 h2))
/-- what stands between the statements of _law_keywords_right -/
inductive KS (w : World) (bv : Value) (bl cl0 p d kd cW cN cT : Addr) (B : Int) (P : List (Str × Value) → Prop) (wd ml : Int) (vN vT : Option Value) (ns : List (Addr × Obj)) : Prop
  | mk (oW oN oT : Obj) (m1 : (cW, oW) ∈ ns) (m2 : (cN, oN) ∈ ns) (m3 : (cT, oT) ∈ ns) (d1 : oW.data = .cell (some (.ref p))) (d2 : oN.data = .cell vN) (d3 : oT.data = .cell vT) (b : BoxAt B ns bv bl cl0) (W : WrdK w p d kd P ns wd ml) (T : TabW (Str.ofString "_law_keywords_right.<locals>.<lambda>") ns 410)
    (G : ∃ ps : Array Value, (403, tabObj ps) ∈ ns) : KS w bv bl cl0 p d kd cW cN cT B P wd ml vN vT ns
section
variable {w : World} {bv : Value} {bl cl0 p d kd cW cN cT : Addr} {B : Int} {P : List (Str × Value) → Prop} {wd ml : Int} {vN vT : Option Value} {ns ns' : List (Addr × Obj)} {h₀ h : Heap} {L : Addr}
/-- what stands between the statements, opened in one step (a goal is copied once) -/
theorem KS.opn {G : Prop} (S : KS w bv bl cl0 p d kd cW cN cT B P wd ml vN vT ns)
    (k : ∀ oW oN oT, (cW, oW) ∈ ns → (cN, oN) ∈ ns → (cT, oT) ∈ ns → oW.data = .cell (some (.ref p)) → oN.data = .cell vN → oT.data = .cell vT → BoxAt B ns bv bl cl0 → WrdK w p d kd P ns wd ml → TabW (Str.ofString "_law_keywords_right.<locals>.<lambda>") ns 410 → G) : G := by
  obtain ⟨oW, oN, oT, m1, m2, m3, d1, d2, d3, b, W, T, -⟩ := S
  exact k oW oN oT m1 m2 m3 d1 d2 d3 b W T
theorem KS.more (k : ∀ q ∈ ns, q ∈ ns') (S : KS w bv bl cl0 p d kd cW cN cT B P wd ml vN vT ns) : KS w bv bl cl0 p d kd cW cN cT B P wd ml vN vT ns' := by
  obtain ⟨oW, oN, oT, m1, m2, m3, d1, d2, d3, b, W, T, G⟩ := S
  exact ⟨oW, oN, oT, k _ m1, k _ m2, k _ m3, d1, d2, d3, b.more k, W.more k, T.more k, G.imp fun ps h => k _ h⟩
theorem KS.imp {P' : List (Str × Value) → Prop} (k : ∀ kvs, P kvs → P' kvs) (S : KS w bv bl cl0 p d kd cW cN cT B P wd ml vN vT ns) : KS w bv bl cl0 p d kd cW cN cT B P' wd ml vN vT ns := by
  obtain ⟨oW, oN, oT, m1, m2, m3, d1, d2, d3, b, W, T, G⟩ := S
  exact ⟨oW, oN, oT, m1, m2, m3, d1, d2, d3, b, W.imp k, T, G⟩
theorem TabW.keepD {qual : Str} {A : Addr} (k : KeepD ns ns') (hc : ∀ ps : Array Value, (A, tabObj ps) ∈ ns → (A, tabObj ps) ∈ ns') (T : TabW qual ns A) : TabW qual ns' A := by
  obtain ⟨ps, h1, h2, h3⟩ := T
  refine ⟨ps, hc _ h1, h2, fun pos v e => ?_⟩
  obtain ⟨c', oc, vs, t, e1, e2, e3, e4, e5⟩ := h3 pos v e
  exact ⟨c', oc, vs, t, e1, k _ e2 (fun es n q => by rw [show ((c', oc) : Addr × Obj).2.data = oc.data from rfl, e4] at q; cases q), e3, e4, e5⟩
theorem BoxAt.keepD (k : KeepD ns ns') (b : BoxAt B ns bv bl cl0) : BoxAt B ns' bv bl cl0 := by
  obtain ⟨i, h, t1, t2, n, vs, xs, m, e, h1, h2, r⟩ := b
  exact ⟨i, h, t1, t2, n, vs, xs, m, e, k _ h1 (fun es n q => by cases q), k _ h2 (fun es n q => by cases q), r⟩
theorem KS.keepD {P' : List (Str × Value) → Prop} {ml' : Int} (k : KeepD ns ns') (W' : WrdK w p d kd P' ns' wd ml') (S : KS w bv bl cl0 p d kd cW cN cT B P wd ml vN vT ns) : KS w bv bl cl0 p d kd cW cN cT B P' wd ml' vN vT ns' := by
  obtain ⟨oW, oN, oT, m1, m2, m3, d1, d2, d3, b, W, T, G⟩ := S
  exact ⟨oW, oN, oT, k _ m1 (fun es n q => by rw [show ((cW, oW) : Addr × Obj).2.data = oW.data from rfl, d1] at q; cases q), k _ m2 (fun es n q => by rw [show ((cN, oN) : Addr × Obj).2.data = oN.data from rfl, d2] at q; cases q), k _ m3 (fun es n q => by rw [show ((cT, oT) : Addr × Obj).2.data = oT.data from rfl, d3] at q; cases q), d1, d2, d3, b.keepD k, W',
    T.keepD k fun ps hp => k _ hp (fun es n q => by cases q), G.imp fun ps h => k _ h (fun es n q => by cases q)⟩
/-- one address apart from the world's dicts and object -/
theorem WrdK.off {a : Addr} {o : Obj} (N : News h₀ L h ns) (hm : (a, o) ∈ ns) (h1 : ∀ es n, o.data ≠ .dict es n) (h2 : o.data ≠ .plain) (k : ∀ q ∈ ns, q.1 ≠ a → q ∈ ns') (W : WrdK w p d kd P ns wd ml) : WrdK w p d kd P ns' wd ml := by
  have W0 := W
  obtain ⟨es, n, t1, t2, o', kvs, a1, a2, a3, a4, a5, a6, a7, a8, a9, b1, b2, r⟩ := W
  refine W0.sub fun q hq hc => k q hq ?_
  rcases hc with e | e | e
  · rw [e]
    exact ne_of_data N a1 hm (fun q => h2 (q.symm.trans rfl))
  · rw [e]
    exact ne_of_data N a2 hm (fun q => h1 _ _ q.symm)
  · rw [e]
    obtain ⟨x1, x2, x3⟩ := dict_data b2
    exact ne_of_data N a9 hm (fun q => h1 _ _ (q.symm.trans x3))
theorem KS.draw {B' : Int} (N : News h₀ L h ns) (k : ∀ q ∈ ns, q.1 ≠ bl → q ∈ ns') (b' : BoxAt B' ns' bv bl cl0) (S : KS w bv bl cl0 p d kd cW cN cT B P wd ml vN vT ns) : KS w bv bl cl0 p d kd cW cN cT B' P wd ml vN vT ns' := by
  obtain ⟨oW, oN, oT, m1, m2, m3, d1, d2, d3, b, W, T, G⟩ := S
  obtain ⟨i, h, t1, t2, n, vs, xs, m, e, h1, h2, r⟩ := b
  have c : ∀ {a : Addr} {o : Obj} {v : Option Value}, (a, o) ∈ ns → o.data = .cell v → (a, o) ∈ ns' := fun hm hd => k _ hm (ne_of_data N hm h1 (by rw [hd]; intro q; cases q))
  refine ⟨oW, oN, oT, c m1 d1, c m2 d2, c m3 d3, d1, d2, d3, b', W.off N h1 (fun es n q => by cases q) (fun q => by cases q) k, ?_, G.imp fun ps h => k _ h (ne_of_data N h h1 (by intro q; cases q))⟩
  obtain ⟨ps, g1, g2, g3⟩ := T
  refine ⟨ps, k _ g1 (ne_of_data N g1 h1 (by intro q; cases q)), g2, fun pos v e => ?_⟩
  obtain ⟨c', oc, vs, t, e1, e2, e3, e4, e5⟩ := g3 pos v e
  exact ⟨c', oc, vs, t, e1, k _ e2 (ne_of_data N e2 h1 (by rw [e4]; intro q; cases q)), e3, e4, e5⟩
theorem KS.tab (N : News h₀ L h ns) (k : ∀ q ∈ ns, q.1 ≠ 410 → q ∈ ns') (T' : TabW (Str.ofString "_law_keywords_right.<locals>.<lambda>") ns' 410) (S : KS w bv bl cl0 p d kd cW cN cT B P wd ml vN vT ns) : KS w bv bl cl0 p d kd cW cN cT B P wd ml vN vT ns' := by
  obtain ⟨oW, oN, oT, m1, m2, m3, d1, d2, d3, b, W, T, G⟩ := S
  obtain ⟨ps, hP⟩ := T.mem
  have c : ∀ {a : Addr} {o : Obj} {v : Option Value}, (a, o) ∈ ns → o.data = .cell v → (a, o) ∈ ns' := fun hm hd => k _ hm (ne_of_data N hm hP (by rw [hd]; intro q; cases q))
  exact ⟨oW, oN, oT, c m1 d1, c m2 d2, c m3 d3, d1, d2, d3, b.keep N hP rfl k, W.off N hP (fun es n q => by cases q) (fun q => by cases q) k, T', G.imp fun ps h => k _ h (show (403 : Nat) ≠ 410 by decide)⟩
theorem TabW.off {qual : Str} {A a : Addr} {o : Obj} {v : Option Value} (N : News h₀ L h ns) (hm : (a, o) ∈ ns) (hd : o.data = .cell v) (k : ∀ q ∈ ns, q.1 ≠ a → q ∈ ns') (T : TabW qual ns A) : TabW qual ns' A := by
  obtain ⟨ps, g1, g2, g3⟩ := T
  refine ⟨ps, k _ g1 (ne_of_data N g1 hm (by rw [hd]; intro q; cases q)), g2, fun pos v e => ?_⟩
  obtain ⟨c', oc, vs, t, e1, e2, e3, e4, e5⟩ := g3 pos v e
  exact ⟨c', oc, vs, t, e1, k _ e2 (ne_of_data N e2 hm (by rw [e4, hd]; intro q; cases q)), e3, e4, e5⟩
theorem BoxAt.off {a : Addr} {o : Obj} {v : Option Value} (N : News h₀ L h ns) (hm : (a, o) ∈ ns) (hd : o.data = .cell v) (k : ∀ q ∈ ns, q.1 ≠ a → q ∈ ns') (b : BoxAt B ns bv bl cl0) : BoxAt B ns' bv bl cl0 := by
  obtain ⟨i, h, t1, t2, n, vs, xs, m, e, h1, h2, r⟩ := b
  exact ⟨i, h, t1, t2, n, vs, xs, m, e, k _ h1 (ne_of_data N h1 hm (by rw [hd]; intro q; cases q)), k _ h2 (ne_of_data N h2 hm (by rw [hd]; intro q; cases q)), r⟩
theorem KS.storeN {o o' : Obj} {vN' : Option Value} (N : News h₀ L h ns) (hm : (cN, o) ∈ ns) (hd : o.data = .cell vN) (h1 : cW ≠ cN) (h2 : cT ≠ cN) (hd' : o'.data = .cell vN') (S : KS w bv bl cl0 p d kd cW cN cT B P wd ml vN vT ns) :
    KS w bv bl cl0 p d kd cW cN cT B P wd ml vN' vT ((cN, o') :: except cN ns) := by
  obtain ⟨oW, oN, oT, m1, m2, m3, d1, d2, d3, b, W, T, G⟩ := S
  have k : ∀ q ∈ ns, q.1 ≠ cN → q ∈ (cN, o') :: except cN ns := fun q hq hn => .tail _ (mem_except.mpr ⟨hq, hn⟩)
  exact ⟨oW, o', oT, k _ m1 h1, .head _, k _ m3 h2, d1, hd', d3, b.off N hm hd k, W.off N hm (fun es n q => by rw [hd] at q; cases q) (fun q => by rw [hd] at q; cases q) k, T.off N hm hd k, G.imp fun ps h => k _ h (ne_of_data N h hm (by rw [hd]; intro q; cases q))⟩
theorem KS.storeT {o o' : Obj} {vT' : Option Value} (N : News h₀ L h ns) (hm : (cT, o) ∈ ns) (hd : o.data = .cell vT) (h1 : cW ≠ cT) (h2 : cN ≠ cT) (hd' : o'.data = .cell vT') (S : KS w bv bl cl0 p d kd cW cN cT B P wd ml vN vT ns) :
    KS w bv bl cl0 p d kd cW cN cT B P wd ml vN vT' ((cT, o') :: except cT ns) := by
  obtain ⟨oW, oN, oT, m1, m2, m3, d1, d2, d3, b, W, T, G⟩ := S
  have k : ∀ q ∈ ns, q.1 ≠ cT → q ∈ (cT, o') :: except cT ns := fun q hq hn => .tail _ (mem_except.mpr ⟨hq, hn⟩)
  exact ⟨oW, oN, o', k _ m1 h1, k _ m2 h2, .head _, d1, d2, hd', b.off N hm hd k, W.off N hm (fun es n q => by rw [hd] at q; cases q) (fun q => by rw [hd] at q; cases q) k, T.off N hm hd k, G.imp fun ps h => k _ h (ne_of_data N h hm (by rw [hd]; intro q; cases q))⟩
end
theorem BoxAt.lt {B : Int} {ns : List (Addr × Obj)} {bv : Value} {bl cl l : Addr} (W : BoxAt B ns bv bl cl) (h : ∀ p ∈ ns, p.1 < l) : l ≠ bl := by
  obtain ⟨i, h', t1, t2, n, vs, xs, m, e, h1, _⟩ := W
  exact Nat.ne_of_gt (h _ h1)
section
variable {w : World} {bv : Value} {bl cl0 p d kd cW cN cT : Addr} {B : Int} {P : List (Str × Value) → Prop} {wd ml : Int} {vN vT : Option Value} {ns ns' : List (Addr × Obj)} {h₀ h : Heap} {L : Addr}
theorem KS.at (S : KS w bv bl cl0 p d kd cW cN cT B P wd ml vN vT ns) (_N : News h₀ L h ns') (k : ∀ q ∈ ns, q ∈ ns') : KS w bv bl cl0 p d kd cW cN cT B P wd ml vN vT ns' := S.more k
theorem KS.lt {l : Addr} (S : KS w bv bl cl0 p d kd cW cN cT B P wd ml vN vT ns) (h : ∀ p ∈ ns, p.1 < l) : l ≠ bl := by
  obtain ⟨_, _, _, _, _, _, _, _, _, b, _⟩ := S
  exact b.lt h
end
section
variable {M : Model} {A : Around} {E : Value → Shared → Prop} {s : Shared} {h₀ : Heap} {L a : Addr} {m : Str → Option Value} {cn : Str} {cs : Scope} {ccd : Value} {cl : List (Str × Addr)} {x : Str} {v : Value} {ns : List (Addr × Obj)} {c : Addr} {o : Obj} {v₀ : Option Value}
theorem storeC {Q : Unit → Shared → Prop} (F : Fr h₀ L s.heap m) (N : News h₀ L s.heap ns) (hm : (c, o) ∈ ns) (hd : o.data = .cell v₀) (hc : cl.lookup x = some c)
    (h : ∀ h' o', Fr h₀ L h' m → News h₀ L h' ((c, o') :: except c ns) → o'.data = .cell (some v) → Q () { s with heap := h' })
    (hk : cs.kind = .function := by rfl) (hx : (envX cn cs L a ccd cl).kindOf x = some .cell := by rfl) : wpAny M A (storeName (envX cn cs L a ccd cl) x v) Q E s := by
  have N1 : News h₀ L s.heap ((c, o) :: except c ns) := nsub N fun q hq => by
    rcases List.mem_cons.mp hq with rfl | hq
    · exact hm
    · exact (mem_except.mp hq).1
  exact storeX_C F N1 hc (.head fun q hq => (mem_except.mp hq).2) hd h hk hx
end
theorem ordsP {cs : List Nat} : ∀ {vs ys : List Value}, Paired (fun c v => ∃ u, v = Value.str ⟨#[c]⟩ u) cs vs → Paired (fun v y => ∀ c u, v = Value.str ⟨#[c]⟩ u → ∃ u', y = Value.int (c : Int) u') vs ys → IntsAre ys (cs.map fun c : Nat => ((c : Nat) : Int)) := by
  induction cs with
  | nil =>
    intro vs ys h h2
    cases h
    cases h2
    exact .nil
  | cons c r ih =>
    intro vs ys h h2
    cases h with
    | cons p q =>
      obtain ⟨u, rfl⟩ := p
      cases h2 with
      | cons p2 q2 =>
        obtain ⟨u', rfl⟩ := p2 c u rfl
        exact .cons _ _ (ih q q2)
theorem compTI {prog : Program} {w : World} {A : Around} {E : Value → Shared → Prop} {s : Shared} {env : Env} {scope : Scope} {x : Str} {elt : PySem.Expr} {Q : Value → Shared → Prop} {xt : Str} {tx : Tok}
    {h₀ : Heap} {L : Addr} {m : Str → Option Value} {news : List (Addr × Obj)} (hh : A.handled = none) (hsz : xt.length ≤ sizeLine) (F : Fr h₀ L s.heap m) (N : News h₀ L s.heap news)
    (helt : ∀ C (c : Nat) t s₃ m₃ E', s₃.heap.Ns C m₃ → m₃ x = some (.str ⟨#[c]⟩ t) → Fr h₀ L s₃.heap m →
      wpAny (model prog w) A (eval elt (compEnv scope C env)) (fun y s₄ => (∃ u, y = .int (c : Int) u) ∧ Keeps s₃ s₄) E' s₃)
    (k : ∀ D h' tk (oD : Obj) (vs : List Value) n, Fr h₀ L h' m → News h₀ L h' ((D, oD) :: news) → oD.cls = .type "list" → oD.data = .seq vs.toArray n → IntsAre vs (xt.cps.toList.map fun c : Nat => ((c : Nat) : Int)) → Q (.ref D) { s with heap := h', toks := tk }) :
    wpAny (model prog w) A (pyIter (.str xt tx)) (CompPost prog w A env scope x [] elt Q) E s := by
  refine wpAny_pyIter_str fun o St hW hst => ?_
  refine ⟨fun _ => true, fun v y => ∀ c u, v = Value.str ⟨#[c]⟩ u → ∃ u', y = Value.int (c : Int) u', _, _, _, _, _, St, rfl, hW A hh, hsz, hst, ?_, ⟨?_, ?_⟩, ?_⟩
  · intro b hb
    rw [List.mem_singleton.mp hb, Heap.size_push]
    exact Nat.lt_succ_self _
  · rintro C i v s₃ m₃ E' _ hn hm hk _
    rw [List.forIn_nil]
    exact wpAny_pure ⟨rfl, keeps_refl⟩
  · rintro C i v s₃ m₃ E' ⟨c, u, hc, rfl⟩ _ hn hm hk _
    have F₃ : Fr h₀ L s₃.heap m := by
      have kp : ∀ b o', s.heap.get? b = some o' → s₃.heap.get? b = some o' := fun b o' e => hk b o' (by
        intro hb
        rw [List.mem_singleton.mp hb] at e
        exact absurd (Heap.lt_size e) (Nat.lt_irrefl _)) (Heap.get?_push_of_some _ e)
      exact F.keeps kp
    refine wpAny_mono (helt C c u s₃ m₃ E' hn hm F₃) (fun y s₄ q => ⟨?_, q.2⟩) fun _ _ e => e
    intro c' u' e
    obtain ⟨u₁, rfl⟩ := q.1
    injection e with e1 e2
    have e3 : c = c' := by simpa using e1
    subst e3
    exact ⟨u₁, rfl⟩
  · intro D h' tk ys vs hD hl hpl hlen hP hF hk
    have hD' : s.heap.get? D = none := by
      cases q : s.heap.get? D with
      | none => rfl
      | some o' => have := Heap.get?_push_of_some o q; rw [hD] at this; cases this
    have kp : ∀ b o', s.heap.get? b = some o' → h'.get? b = some o' := fun b o' e => hk b o' (by
      intro hb
      rw [List.mem_singleton.mp hb] at e
      exact absurd (Heap.lt_size e) (Nat.lt_irrefl _)) (Heap.get?_push_of_some _ e)
    obtain ⟨oD, hoD, hcD, nD, hdD⟩ := hl
    have F' := F.keeps kp
    rw [List.filter_eq_self.mpr (fun _ _ => rfl)] at hF
    refine k D h' tk oD ys.toList nD F' (News.more F' (News.keeps N kp) hoD (fun es n q => by rw [hdD] at q; cases q) (fresh_base F hD')) hcD (by rw [hdD]) (ordsP (al_signs (by rw [hlen, Array.length_toList]) fun j v e => ?_) hF)
    obtain ⟨c, u, hc, rfl⟩ := hP j v e
    exact ⟨c, u, by rw [Array.getElem?_toList]; exact hc, rfl⟩

end

section
section
variable {prog : Program} {w : World} {A : Around} {E : Value → Shared → Prop} {s : Shared} {env : Env} {h₀ : Heap} {body : List Stmt} {Q : Flow → Shared → Prop}
noncomputable def TurnR (h₀ : Heap) (L : Addr) (it : Addr × Obj) (Jn : (Str → Option Value) → List (Addr × Obj) → Prop) (s : Shared) (Q : Flow → Shared → Prop) (f : Flow) (s₂ : Shared) : Prop :=
  match f with
  | .ret v => Q (.ret v) s₂
  | .brk => Q .next s₂
  | _ => ∃ h' tk' m' R, s₂ = { s with heap := h', toks := tk' } ∧ Fr h₀ L h' m' ∧ News h₀ L h' R ∧ it ∈ R ∧ Jn m' (except it.1 R)
/-- a for over a range, the ledger told by a word of one's own -/
theorem iterR {x : Str} {px : Pos} {r : Addr} {a b : Int} {t u v : Tok} {n : Nat} {m₀ : Str → Option Value} {news : List (Addr × Obj)} (J : Nat → (Str → Option Value) → List (Addr × Obj) → Prop) (hh : A.handled = none)
    (F : Fr h₀ env.locals s.heap m₀) (N : News h₀ env.locals s.heap news) (hr : IsRange s.heap r a b 1 t u v) (hsm : Builtin.Range.small a b 1 = true) (hn : Builtin.Range.rangeSize a b 1 = ((n : Nat) : Int)) (h0 : J 0 m₀ news)
    (turn : ∀ i t m₁ nx I oI h tk, i < n → J i m₁ nx → Fr h₀ env.locals h m₁ → News h₀ env.locals h ((I, oI) :: nx) → oI.cls = .type "range_iterator" → (∃ x y z, oI.data = .fields #[rawInt x, rawInt y, rawInt z]) → (∀ p ∈ nx, p.1 ≠ I) →
      wpAny (model prog w) A (assign (.Name x px) env (.int (a + (i : Int)) t)) (fun _ s₃ => wpAny (model prog w) A (execs body env) (TurnR h₀ env.locals (I, oI) (J (i + 1)) { s with heap := h, toks := tk } Q) E s₃) E { s with heap := h, toks := tk })
    (done : ∀ m₁ nx h tk, J n m₁ nx → Fr h₀ env.locals h m₁ → News h₀ env.locals h nx → Q .next { s with heap := h, toks := tk }) :
    wpAny (model prog w) A (pyIter (.ref r)) (fun it s₂ => TurnsAt prog w A h₀ env (.Name x px) body Q E it s₂) E s := by
  have hI0 : h₀.get? s.heap.objs.size = none := next_is_new F
  refine wpAny_pyIter_range hr hsm ?_
  rw [hn]
  refine turnsAt_mk (wr := [s.heap.objs.size]) (news := news) J rfl (KTurns.ofWalks (LCg.range_walks hh a n) (fun i v s' Q' E' st hq => wpAny_pure hq)) ?_ ?_ ?_ ?_ (F.push _)
    (fun p hp => ⟨Heap.get?_push_of_some _ (N p hp).1, (N p hp).2⟩) h0 ?_ ?_
  · intro hb
    exact absurd F.ns.lt ((List.mem_singleton.mp hb) ▸ Nat.lt_irrefl _)
  · intro b hb
    rw [List.mem_singleton.mp hb]
    exact hI0
  · intro p hp hI'
    exact absurd (Heap.lt_size (N p hp).1) ((List.mem_singleton.mp hI') ▸ Nat.lt_irrefl _)
  · show Heap.get? _ _ = some _
    rw [Heap.get?_push_size _ rfl]
    simp
  · rintro i v m₁ nx h tk own hi ⟨ti, rfl⟩ hJ hoff hown hget hall st F₁ N₁
    have st' : h.get? s.heap.objs.size = some _ := st
    have mI := hall _ (.head _) hI0 _ st'
    generalize hoI : ({ cls := .type "range_iterator", dict := none, data := .fields #[rawInt (a + ((i + 1 : Nat) : Int) * 1), rawInt ((n : Int) - ((i + 1 : Nat) : Int)), rawInt 1], slots := #[] } : Obj) = oI at *
    have hoff' : ∀ p ∈ nx, p.1 ≠ s.heap.objs.size := fun p hp e => hoff p hp (e ▸ List.mem_singleton_self _)
    have N₂ : News h₀ env.locals h ((s.heap.objs.size, oI) :: nx) := nsub N₁ fun q hq => by
      rcases List.mem_cons.mp hq with rfl | hq
      · exact List.mem_append_left _ mI
      · exact List.mem_append_right _ hq
    refine wpAny_mono (turn i ti m₁ nx _ oI h tk hi hJ F₁ N₂ (by rw [← hoI]) (by rw [← hoI]; exact ⟨_, _, _, rfl⟩) hoff') (fun _ s₃ p => wpAny_mono p (fun f s₄ q => ?_) fun _ _ e => e) fun _ _ e => e
    have fin : (∃ h' tk' m' R, s₄ = { s with heap := h', toks := tk' } ∧ Fr h₀ env.locals h' m' ∧ News h₀ env.locals h' R ∧ (s.heap.objs.size, oI) ∈ R ∧ J (i + 1) m' (except s.heap.objs.size R)) →
        LoopStepU h₀ env.locals [s.heap.objs.size] own (J (i + 1)) { ({ s with heap := s.heap.push { cls := .type "range_iterator", data := .fields #[rawInt a, rawInt (n : Int), rawInt 1] } } : Shared) with heap := h, toks := tk } .next s₄ := by
      rintro ⟨h', tk', m', R, rfl, F', N', r1, hJ'⟩
      refine ⟨rfl, h', tk', m', except s.heap.objs.size R, rfl, F', fun p hp => ?_, fun p hp hI' => (mem_except.mp hp).2 (List.mem_singleton.mp hI'), hJ'⟩
      rcases List.mem_append.mp hp with hp | hp
      · have e1 := hget p hp
        have e := List.mem_singleton.mp (hown p hp)
        obtain ⟨b, o⟩ := p
        obtain rfl : b = s.heap.objs.size := e
        have : o = oI := by
          have q := (N₂ _ (.head _)).1
          rw [show ((s.heap.objs.size, oI) : Addr × Obj).1 = s.heap.objs.size from rfl] at q
          rw [show ((s.heap.objs.size, o) : Addr × Obj).1 = s.heap.objs.size from rfl, q] at e1
          exact (Option.some.inj e1).symm
        subst this
        exact N' _ r1
      · exact N' _ (mem_except.mp hp).1
    cases f with
    | ret v => exact q
    | brk => exact q
    | next => exact fin q
    | cont => exact fin q
  · rintro h' tk m' nx F' N' hoff hJ
    exact done m' nx h' tk hJ F' N'
end

end

section
local macro_rules | `(tactic| k_steps) => steps [323, 344, 351, 358, 387] ["storeName _ @name _", "storeName _ @told _", "subscriptTail _ _ Value.ref:1 Value.int:2", "eval Expr.ListComp:4 _"]
local macro_rules | `(tactic| walk_at "my kl") => steps [323, 344, 351, 358, 387] ["storeName _ @name _", "storeName _ @told _", "subscriptTail _ _ Value.ref:1 Value.int:2", "pyIter _"]
local macro_rules | `(tactic| walk_at "my ki") => steps [323, 344, 351, 358, 387] ["exec Stmt.If:4 _", "storeName _ @name _", "storeName _ @told _", "subscriptTail _ _ Value.ref:1 Value.int:2", "eval Expr.ListComp:4 _"]
theorem c_kyr (w : World) (bv wv : Value) (bl cl0 : Addr) (B wd : Int) (h1 : 5 ≤ wd) (h2 : wd ≤ 40) (hB : B ≤ 999000) :
    TellsB w 620 500 413 [bv, wv] (fun ns => BoxAt B ns bv bl cl0 ∧ Wrd ns wv wd 5000 ∧ TabW (Str.ofString "_law_keywords_right.<locals>.<lambda>") ns 410 ∧ ∃ ps : Array Value, (403, tabObj ps) ∈ ns) (fun _ r ns' => r = .bool true ∧ (∃ ps : Array Value, (410, tabObj ps) ∈ ns') ∧ ∃ ps : Array Value, (403, tabObj ps) ∈ ns') := by
  unfold TellsB
  k_fill
  intro cn sn sg sc sm a ccd cl A₀ base h₀ L m news s Q E mean mg mb B0 F X N T XB TB C7 C12 hpre hret
  obtain ⟨hb, hW, hT, hG⟩ := hpre
  refine wpAny_call ?_
  refine' code_defSC B0 F X N T XB TB ktsDicts_nil KtsTurn.refl rfl rfl rfl ?k6 ?k7 ?k8 ?k9 ?kB ?kD ?_ ?c2 ?c3 ?c4
  case k6 => k_is
  case k7 => k_is
  case k8 => k_room
  case k9 => exact BindsTo.of_eq rfl
  case kB => exact rfl
  case kD => decide +kernel
  case c2 => exact rfl
  case c3 => exact rfl
  case c4 => exact rfl
  intro g' L' h' tk' cells' FG' F' N' Y' B' X' T' D' l1
  k_cells Y'
  rename_i o1 o2 o3 d1 d2 d3
  have dT : o1.data = .cell none := d1
  have dN : o2.data = .cell none := d2
  have dW : o3.data = .cell (some wv) := d3
  clear d1 d2 d3
  try simp only [List.cons_append, List.nil_append] at N'
  try dsimp only
  try k_lift B'
  try k_fold
  have hW1 : Wrd ((L' + 1 + 1 + 1, o1) :: (L' + 1 + 1, o2) :: (L' + 1, o3) :: news) wv wd 5000 := hW.more fun q hq => .tail _ (.tail _ (.tail _ hq))
  k_steps
  try k_fold
  refine' use (c_begin w wv wd 5000) hW1 ?_
  intro v9 n1 h9 tk9 F9 N9 S9
  refine hideG fun H9 hG9 => ?_
  obtain ⟨p, d, kd, rfl, hK, hD⟩ := S9
  refine hG9 ?_
  clear hG9 H9
  have S : KS w bv bl cl0 p d kd (L' + 1) (L' + 1 + 1) (L' + 1 + 1 + 1) B (fun kvs => kvs.length ≤ 20) wd 5000 none none n1 := by
    refine ⟨o3, o2, o1, hD _ (.tail _ (.tail _ (.head _))) ?_, hD _ (.tail _ (.head _)) ?_, hD _ (.head _) ?_, dW, dN, dT, (hb.more fun q hq => .tail _ (.tail _ (.tail _ hq))).keepD hD, hK, (hT.more fun q hq => .tail _ (.tail _ (.tail _ hq))).keepD hD fun ps hp => hD _ hp (fun es n q => by cases q), hG.imp fun ps hp => hD _ (.tail _ (.tail _ (.tail _ hp))) (fun es n q => by cases q)⟩
    · exact fun es n q => by rw [show ((L' + 1, o3) : Addr × Obj).2.data = o3.data from rfl, dW] at q; cases q
    · exact fun es n q => by rw [show ((L' + 1 + 1, o2) : Addr × Obj).2.data = o2.data from rfl, dN] at q; cases q
    · exact fun es n q => by rw [show ((L' + 1 + 1 + 1, o1) : Addr × Obj).2.data = o1.data from rfl, dT] at q; cases q
  clear hG hW1 hW hT hb hK hD dW dN dT N'
  try clear F'
  k_steps
  (rename_i l3 l1')
  (rename News _ _ _ (_ :: n1) => lN)
  have S2 := S.at lN fun q hq => List.mem_cons_of_mem _ hq
  refine KS.opn S2 fun oW oN oT mW mN mT dW dN dT hb hK hT => ?_
  have hl := S.lt l1'
  ((((try k_fold); refine' useDr (c_draw w bv bl cl0 _ _ _ ?q1 ?q2 ?q3) hb ?_; (case q1 => omega); (case q2 => decide); (case q3 => decide)); intro f dt n9 h9 tk9 f1 f2 F9 N9 hb2 dk))
  have ml := dk _ (.head _) hl
  replace S := S2.draw lN dk hb2
  clear lN hb hK hT mW mN mT dW dN dT hb2 dk S2 oW oN oT hl l1'
  k_steps
  refine' item_some ?N ?m f1 ?hk ?hz ?_ ?hs
  case N => k_asm
  case m => exact ml
  case hk => exact f2
  case hz => exact Nat.le_of_ble_eq_true rfl
  case hs => with_unfolding_all rfl
  intro x hx
  refine hideG fun H9 hG9 => ?_
  obtain ⟨nm, tn, rfl, hnm⟩ : ∃ nm tn, x = .str nm tn ∧ Five nm := by
    simp only [List.mem_cons, List.not_mem_nil, or_false] at hx
    rcases hx with rfl | rfl | rfl | rfl | rfl
    all_goals exact ⟨_, _, rfl, five_of (by simp)⟩
  refine hG9 ?_
  clear hG9 H9
  clear ml hx f1 f2
  k_steps
  refine KS.opn S fun oW oN oT mW mN mT dW dN dT hb hK hT => ?_
  (rename News _ _ _ n9 => lN)
  ((((try k_fold); refine' useDr (c_draw w bv bl cl0 _ _ _ ?q1 ?q2 ?q3) hb ?_; (case q1 => omega); (case q2 => decide); (case q3 => decide)); intro f dt n9 h9 tk9 f1 f2 F9 N9 hb2 dk))
  replace S := S.draw lN dk hb2
  clear lN hb hK hT mW mN mT dW dN dT hb2 dk oW oN oT
  k_steps
  (rename News _ _ _ (_ :: n9) => lN)
  have S2 := S.at lN fun q hq => List.mem_cons_of_mem _ hq
  refine KS.opn S2 fun oW oN oT mW mN mT dW dN dT hb hK hT => ?_
  refine' storeC ?F lN mN dN ?hc ?_ ?hk ?hx
  case F => k_asm
  case hc => rfl
  case hk => rfl
  case hx => rfl
  intro h5 o5 F5 N5 d5
  replace S : KS w bv bl cl0 p d kd (L' + 1) (L' + 1 + 1) (L' + 1 + 1 + 1) (B + 1 + 1) (fun kvs => kvs.length ≤ 20) wd 5000 (some (.str nm tn)) none _ := S2.storeN lN mN dN (Nat.ne_of_lt (Nat.lt_succ_self _)) (Nat.ne_of_gt (Nat.lt_succ_self _)) d5
  clear lN hb hK hT mW mN mT dW dN dT oW oN oT S2 d5
  generalize hns : ((L' + 1 + 1, o5) :: except (L' + 1 + 1) (_ :: n9) : List (Addr × Obj)) = n5 at *
  clear hns
  refine KS.opn S fun oW oN oT mW mN mT dW dN dT hb hK hT => ?_
  k_steps
  obtain ⟨b, hb6⟩ : ∃ b, (nm == Str.ofString "MAXLNGTH") = b := ⟨_, rfl⟩
  try k_fold
  refine' useM2 (c_kso w p d kd nm (Str.ofString (toString f)) f wd 5000 _ _ b hnm.2.2.1 hnm.2.2.2.2 hb6 h1 h2 (str_small f1 f2 h1).1 (str_small f1 f2 h1).2 f1) hK ?_
  intro n6 h9 tk9 F9 N9 hK2 hD
  replace S := S.keepD hD hK2
  clear hK2 hD hb hK hT mW mN mT dW dN dT oW oN oT
  refine wpAny_execs_cons ?_
  (rename Fr _ _ _ _ => lF)
  refine cut_st (fun ns => KS w bv bl cl0 p d kd (L' + 1) (L' + 1 + 1) (L' + 1 + 1 + 1) (B + 1 + 1) (fun kvs => ∃ t, valueAt kvs nm = some (.int f t)) wd (if b then f else 5000) (some (.str nm tn)) none ns) lF ?_ ?_
  --{
  · k_fold
    refine KS.opn S fun oW oN oT mW mN mT dW dN dT hb hK hT => ?_
    k_steps
    ((((try k_fold); refine' useTM (c_kgo w p d kd nm f wd _ _ (hnm).1 (hnm).2.1 (hnm).2.2.1 (hnm).2.2.2.1) hK ?_); intro t9 n9 h9 tk9 F9 N9 hk; replace S := S.more hk; clear hk hb hK hT mW mN mT dW dN dT oW oN oT; refine KS.opn S fun oW oN oT mW mN mT dW dN dT hb hK hT => ?_))
    cases b
    · k_steps
      · exact absurd rfl (by with_reducible assumption)
      · exact StCut.intro (by assumption) (by with_reducible assumption) S
    · have hWr := hK.wrd
      k_steps
      · exact absurd rfl (by with_reducible assumption)
      · exact absurd (if_pos rfl) (by with_reducible assumption)
      · exact StCut.intro (by assumption) (by with_reducible assumption) S
  --}
  clear lF S
  rintro h10 tk10 n10 lF lN0 S
  refine wpAny_execs_cons ?_
  refine cut_gnd (fun ns => KS w bv bl cl0 p d kd (L' + 1) (L' + 1 + 1) (L' + 1 + 1 + 1) (B + 1 + 1) (fun kvs => ∃ t, valueAt kvs nm = some (.int f t)) wd (if b then f else 5000) (some (.str nm tn)) none ns) lF B' X' T' D' ?_ ?_
  --{
  · k_fold
    refine KS.opn S fun oW oN oT mW mN mT dW dN dT hb hK hT => ?_
    k_steps
    replace S := S.tab lN0 lk lW
    clear hb hK hT mW mN mT dW dN dT oW oN oT
    refine KS.opn S fun oW oN oT mW mN mT dW dN dT hb hK hT => ?_
    have C : TellsX w 650 650 lf [] (fun ns => ns = lns) (fun _ _ _ => False) (fun k => k = 1) := by
      unfold TellsX
      intro cn2 sn2 sg2 sc2 sm2 a2 ccd2 cl2 outer2 A2 base2 hh2 L2 mm2 news2 s2 Q2 E2 mean2 mg2 mb2 B2 F2 X2 N2 T2 hpre2 hret2 hX2
      subst hpre2
      refine wpAny_call ?_
      kla_enter
      k_steps
      try k_fold
      refine' useX (c_ksx w p d kd (fun kvs => ∃ t, valueAt kvs nm = some (.int f t)) nm (Str.ofString "x") wd (if b then f else 5000) _ _ b hnm.2.2.1 hnm.2.2.2.2 hb6 h1 h2 (x_none (wd := wd)).1 x_none.2) hK ?_ ?_
      · intro v9 n9 h9 tk9 F9 N9 hf
        exact hf.elim
      · intro zE zD zK zt1 zt2 zt3 zv zg zh0 ztk zk zFg zU0 zR0
        (((rename Below _ _ _ _ => zB); refine lv_on zB zFg zR0 zU0 ?_; intro zh zR zU))
        exact hX2 _ _ _ _ _ _ _ _ _ _ zk (by with_reducible assumption) zU zR
    (((try k_fold); refine' useH (c_heard w lf C (fun ns e => ⟨_, _, e ▸ lm, rfl⟩)) XB TB ?k6 rfl ?_ ?_; (case k6 => assumption)))
    · intro v9 n9 h9 tk9 F9 N9 hf
      exact hf.elim
    · rintro g9 k9 tp9 t91 t92 c9 h9 tk9 rfl T9 F9 N9 B9 X9 P9 D9
      replace S := S.at N9 fun q hq => .tail _ hq
      clear hb hK hT mW mN mT dW dN dT oW oN oT
      refine KS.opn S fun oW oN oT mW mN mT dW dN dT hb hK hT => ?_
      k_steps
      (rename News _ _ _ (_ :: _ :: lns) => lN1)
      replace S := S.at lN1 fun q hq => .tail _ hq
      clear hb hK hT mW mN mT dW dN dT oW oN oT
      refine KS.opn S fun oW oN oT mW mN mT dW dN dT hb hK hT => ?_
      ((((try k_fold); refine' useTM (c_kgo w p d kd nm f wd _ _ (hnm).1 (hnm).2.1 (hnm).2.2.1 (hnm).2.2.2.1) hK ?_); intro t9 n9 h9 tk9 F9 N9 hk; replace S := S.more hk; clear hk hb hK hT mW mN mT dW dN dT oW oN oT; refine KS.opn S fun oW oN oT mW mN mT dW dN dT hb hK hT => ?_))
      k_steps
      · exact absurd rfl (by with_reducible assumption)
      · exact GCut.intro T9 (by assumption) (by with_reducible assumption) B9 X9 P9 D9 S
  --}
  clear lF S lN0
  clear B' X' T' D'
  rintro g1 h11 tk11 n11 T1 lF lN0 B' X' T' D' S
  refine KS.opn S fun oW oN oT mW mN mT dW dN dT hb hK hT => ?_
  k_steps
  (rename_i l4 l4')
  have hl := S.lt l4'
  (rename News _ _ _ (_ :: n11) => lN)
  replace S := S.at lN fun q hq => List.mem_cons_of_mem _ hq
  clear hb hK hT mW mN mT dW dN dT oW oN oT
  refine KS.opn S fun oW oN oT mW mN mT dW dN dT hb hK hT => ?_
  have f1' := f1
  have f2' := f2
  generalize f = num at *
  generalize dt = dnum at *
  clear f1 f2
  ((((try k_fold); refine' useDr (c_draw w bv bl cl0 _ _ _ ?q1 ?q2 ?q3) hb ?_; (case q1 => omega); (case q2 => decide); (case q3 => decide)); intro f dt n9 h9 tk9 f1 f2 F9 N9 hb2 dk))
  have ml := dk _ (.head _) hl
  replace S := S.draw lN dk hb2
  clear lN hb hK hT mW mN mT dW dN dT hb2 dk oW oN oT hl l4'
  k_steps
  refine' item_some ?N ?m f1 ?hk ?hz ?_ ?hs
  case N => k_asm
  case m => exact ml
  case hk => exact f2
  case hz => exact Nat.le_of_ble_eq_true rfl
  case hs => with_unfolding_all rfl
  intro x hx
  refine hideG fun H9 hG9 => ?_
  obtain ⟨td, tt, rfl, htd⟩ : ∃ td tt, x = .str td tt ∧ Told5 td := by
    simp only [List.mem_cons, List.not_mem_nil, or_false] at hx
    rcases hx with rfl | rfl | rfl | rfl | rfl
    all_goals exact ⟨_, _, rfl, told_of (by simp)⟩
  refine hG9 ?_
  clear hG9 H9
  clear ml hx f1 f2
  k_steps
  refine KS.opn S fun oW oN oT mW mN mT dW dN dT hb hK hT => ?_
  (rename News _ _ _ n9 => lN)
  refine' storeC ?F lN mT dT ?hc ?_ ?hk ?hx
  case F => k_asm
  case hc => rfl
  case hk => rfl
  case hx => rfl
  intro h5 o6 F5 N5 d5
  replace S : KS w bv bl cl0 p d kd (L' + 1) (L' + 1 + 1) (L' + 1 + 1 + 1) (B + 1 + 1 + 1) (fun kvs => ∃ t, valueAt kvs nm = some (.int num t)) wd (if b then num else 5000) (some (.str nm tn)) (some (.str td tt)) _ := S.storeT lN mT dT (Nat.ne_of_lt (Nat.lt_succ_of_lt (Nat.lt_succ_self _))) (Nat.ne_of_lt (Nat.lt_succ_self _)) d5
  clear lN hb hK hT mW mN mT dW dN dT oW oN oT d5
  generalize hns : ((L' + 1 + 1 + 1, o6) :: except (L' + 1 + 1 + 1) n9 : List (Addr × Obj)) = n12 at *
  clear hns
  (rename Fr _ _ _ _ => lF)
  (rename News _ _ _ n12 => lN0)
  refine wpAny_execs_cons ?_
  refine cut_gnd (fun ns => KS w bv bl cl0 p d kd (L' + 1) (L' + 1 + 1) (L' + 1 + 1 + 1) (B + 1 + 1 + 1) (fun kvs => ∃ t, valueAt kvs nm = some (.int num t)) wd (if b then num else 5000) (some (.str nm tn)) (some (.str td tt)) ns) lF B' X' T' D' ?_ ?_
  --{
  · k_fold
    refine KS.opn S fun oW oN oT mW mN mT dW dN dT hb hK hT => ?_
    k_steps
    replace S := S.tab lN0 lk lW
    clear hb hK hT mW mN mT dW dN dT oW oN oT
    refine KS.opn S fun oW oN oT mW mN mT dW dN dT hb hK hT => ?_
    have C : TellsX w 650 650 lf [] (fun ns => ns = lns) (fun _ _ _ => False) (fun k => k = 8) := by
      unfold TellsX
      intro cn2 sn2 sg2 sc2 sm2 a2 ccd2 cl2 outer2 A2 base2 hh2 L2 mm2 news2 s2 Q2 E2 mean2 mg2 mb2 B2 F2 X2 N2 T2 hpre2 hret2 hX2
      subst hpre2
      refine wpAny_call ?_
      kla_enter
      k_steps
      try k_fold
      refine' useX (c_ksp w (.ref p) _ td _ htd.1 htd.2) trivial ?_ ?_
      · intro v9 n9 h9 tk9 F9 N9 hf
        exact hf.elim
      · intro zE zD zK zt1 zt2 zt3 zv zg zh0 ztk zk zFg zU0 zR0
        (((rename Below _ _ _ _ => zB); refine lv_on zB zFg zR0 zU0 ?_; intro zh zR zU))
        exact hX2 _ _ _ _ _ _ _ _ _ _ zk (by with_reducible assumption) zU zR
    (((try k_fold); refine' useH (c_heard w lf C (fun ns e => ⟨_, _, e ▸ lm, rfl⟩)) XB TB ?k6 rfl ?_ ?_; (case k6 => assumption)))
    · intro v9 n9 h9 tk9 F9 N9 hf
      exact hf.elim
    · rintro g9 k9 tp9 t91 t92 c9 h9 tk9 rfl T9 F9 N9 B9 X9 P9 D9
      replace S := S.at N9 fun q hq => .tail _ hq
      clear hb hK hT mW mN mT dW dN dT oW oN oT
      refine KS.opn S fun oW oN oT mW mN mT dW dN dT hb hK hT => ?_
      k_steps
      (rename News _ _ _ (_ :: _ :: lns) => lN1)
      exact GCut.intro T9 (by assumption) lN1 B9 X9 P9 D9 (S.at lN1 fun q hq => .tail _ hq)
  --}
  clear lF S lN0
  clear B' X' T' D'
  rintro g2 h12 tk12 n12 T2 lF lN0 B' X' T' D' S
  replace T1 := T1.trans T2
  clear T2
  refine wpAny_execs_cons ?_
  refine cut_gnd (fun ns => KS w bv bl cl0 p d kd (L' + 1) (L' + 1 + 1) (L' + 1 + 1 + 1) (B + 1 + 1 + 1) (fun kvs => ∃ t, valueAt kvs nm = some (.int num t)) wd (if b then num else 5000) (some (.str nm tn)) (some (.str td tt)) ns) lF B' X' T' D' ?_ ?_
  --{
  · k_fold
    refine KS.opn S fun oW oN oT mW mN mT dW dN dT hb hK hT => ?_
    k_steps
    replace S := S.tab lN0 lk lW
    clear hb hK hT mW mN mT dW dN dT oW oN oT
    refine KS.opn S fun oW oN oT mW mN mT dW dN dT hb hK hT => ?_
    have C : TellsX w 650 650 lf [] (fun ns => ns = lns) (fun _ _ _ => False) (fun k => k = 7) := by
      unfold TellsX
      intro cn2 sn2 sg2 sc2 sm2 a2 ccd2 cl2 outer2 A2 base2 hh2 L2 mm2 news2 s2 Q2 E2 mean2 mg2 mb2 B2 F2 X2 N2 T2 hpre2 hret2 hX2
      subst hpre2
      refine wpAny_call ?_
      kla_enter
      k_steps
      try k_fold
      refine' useX (c_kgn w (.ref p) _) trivial ?_ ?_
      · intro v9 n9 h9 tk9 F9 N9 hf
        exact hf.elim
      · intro zE zD zK zt1 zt2 zt3 zv zg zh0 ztk zk zFg zU0 zR0
        (((rename Below _ _ _ _ => zB); refine lv_on zB zFg zR0 zU0 ?_; intro zh zR zU))
        exact hX2 _ _ _ _ _ _ _ _ _ _ zk (by with_reducible assumption) zU zR
    (((try k_fold); refine' useH (c_heard w lf C (fun ns e => ⟨_, _, e ▸ lm, rfl⟩)) XB TB ?k6 rfl ?_ ?_; (case k6 => assumption)))
    · intro v9 n9 h9 tk9 F9 N9 hf
      exact hf.elim
    · rintro g9 k9 tp9 t91 t92 c9 h9 tk9 rfl T9 F9 N9 B9 X9 P9 D9
      replace S := S.at N9 fun q hq => .tail _ hq
      clear hb hK hT mW mN mT dW dN dT oW oN oT
      refine KS.opn S fun oW oN oT mW mN mT dW dN dT hb hK hT => ?_
      k_steps
      (rename News _ _ _ (_ :: _ :: lns) => lN1)
      replace S := S.at lN1 fun q hq => .tail _ hq
      clear hb hK hT mW mN mT dW dN dT oW oN oT
      refine KS.opn S fun oW oN oT mW mN mT dW dN dT hb hK hT => ?_
      try k_fold
      refine' use (c_kgr w (.ref p) _) trivial ?_
      intro v9 n9 h9 tk9 F9 N9 S9
      refine hideG fun H9 hG9 => ?_
      obtain ⟨⟨pp, pd, ptp, pt1, pt2, pc, rfl, pm1, pm2, pm3⟩, hk⟩ := S9
      refine hG9 ?_
      clear hG9 H9
      replace S := S.more hk
      clear hb hK hT mW mN mT dW dN dT oW oN oT
      clear hk
      k_steps
      (rename News _ _ _ (_ :: n9) => lN1)
      exact GCut.intro T9 (by assumption) lN1 B9 X9 P9 D9 (S.at lN1 fun q hq => .tail _ hq)
  --}
  clear lF S lN0
  clear B' X' T' D'
  rintro g3 h13 tk13 n13 T2 lF lN0 B' X' T' D' S
  replace T1 := T1.trans T2
  clear T2
  refine KS.opn S fun oW oN oT mW mN mT dW dN dT hb hK hT => ?_
  k_steps
  try k_fold
  refine' use (c_kga w (.ref p) _) trivial ?_
  intro v9 n9 h9 tk9 F9 N9 S9
  refine hideG fun H9 hG9 => ?_
  obtain ⟨⟨ax, at9, rfl, ha9⟩, hk⟩ := S9
  refine hG9 ?_
  clear hG9 H9
  replace S := S.more hk
  clear hb hK hT mW mN mT dW dN dT oW oN oT
  clear hk lF lN0
  walk_at "my ki"
  (rename Fr _ _ _ _ => lF)
  (rename News _ _ _ n9 => lN0)
  refine cut_gnd (fun ns => KS w bv bl cl0 p d kd (L' + 1) (L' + 1 + 1) (L' + 1 + 1 + 1) (B + 1 + 1 + 1) (fun kvs => ∃ t, valueAt kvs nm = some (.int num t)) wd (if b then num else 5000) (some (.str nm tn)) (some (.str td tt)) ns) lF B' X' T' D' ?_ ?_
  --{
  · k_fold
    refine KS.opn S fun oW oN oT mW mN mT dW dN dT hb hK hT => ?_
    k_steps
    replace S := S.tab lN0 lk lW
    clear hb hK hT mW mN mT dW dN dT oW oN oT
    refine KS.opn S fun oW oN oT mW mN mT dW dN dT hb hK hT => ?_
    have C : TellsX w 650 650 lf [] (fun ns => ns = lns) (fun _ _ _ => False) (fun k => k = 7) := by
      unfold TellsX
      intro cn2 sn2 sg2 sc2 sm2 a2 ccd2 cl2 outer2 A2 base2 hh2 L2 mm2 news2 s2 Q2 E2 mean2 mg2 mb2 B2 F2 X2 N2 T2 hpre2 hret2 hX2
      subst hpre2
      refine wpAny_call ?_
      kla_enter
      k_steps
      try k_fold
      refine' useX (c_ksn w (.ref p) _ _ _ (by decide +kernel)) trivial ?_ ?_
      · intro v9 n9 h9 tk9 F9 N9 hf
        exact hf.elim
      · intro zE zD zK zt1 zt2 zt3 zv zg zh0 ztk zk zFg zU0 zR0
        (((rename Below _ _ _ _ => zB); refine lv_on zB zFg zR0 zU0 ?_; intro zh zR zU))
        exact hX2 _ _ _ _ _ _ _ _ _ _ zk (by with_reducible assumption) zU zR
    (((try k_fold); refine' useH (c_heard w lf C (fun ns e => ⟨_, _, e ▸ lm, rfl⟩)) XB TB ?k6 rfl ?_ ?_; (case k6 => assumption)))
    · intro v9 n9 h9 tk9 F9 N9 hf
      exact hf.elim
    · rintro g9 k9 tp9 t91 t92 c9 h9 tk9 rfl T9 F9 N9 B9 X9 P9 D9
      replace S := S.at N9 fun q hq => .tail _ hq
      clear hb hK hT mW mN mT dW dN dT oW oN oT
      refine KS.opn S fun oW oN oT mW mN mT dW dN dT hb hK hT => ?_
      k_steps
      (rename News _ _ _ (_ :: _ :: lns) => lN1)
      exact GCut.intro T9 (by assumption) lN1 B9 X9 P9 D9 (S.at lN1 fun q hq => .tail _ hq)
  --}
  clear lF S lN0
  clear B' X' T' D'
  rintro g4 h14 tk14 n14 T2 lF lN0 B' X' T' D' S
  replace T1 := T1.trans T2
  clear T2
  k_steps
  with_reducible apply ListComp_rowsP
  case hfree => decide
  case hcell => decide
  case hkind => with_unfolding_all rfl
  case hnames => decide
  case hx => with_unfolding_all rfl
  case hs => intro _; with_unfolding_all rfl
  walk_at "my kl"
  (rename Fr _ _ _ _ => lF)
  (rename News _ _ _ n14 => lN0)
  have hal : ax.length = 256 := by
    show ax.cps.size = 256
    rw [← Array.length_toList, ha9, List.length_range]
  refine compTI rfl (by rw [hal, sizeLine_eq]; decide) lF lN0 ?_ ?_
  · intro C c t s₃ m₃ E' hn hx F₃
    k_steps
    exact keeps_refl
  · intro D h' tk oD vs n F9 N9 hcD hdD hI
    rw [ha9] at hI
    k_steps
    (rename CarriedAll _ _ => hcA)
    (rename Heap.IsList _ _ _ => hlA)
    (rename News _ _ _ (_ :: n14) => lNx)
    have hc2 := hcA.intsOf
    rw [List.map_id'] at hc2
    refine eq_intsK ⟨oD, (lNx _ (.head _)).1, hcD, n, hdD⟩ hI hlA hc2 (by k_units) ?_
    rw [show decide ((List.range 256).map (fun c : Nat => (c : Int)) = rangeInts 0 1 (256 - 0 : Int).toNat) = true from by decide +kernel]
    k_steps
    (rename KtsTurn _ h₀ _ => zT)
    exact hret _ _ _ _ (fr_same zT (by with_reducible assumption)) (news_same zT (by with_reducible assumption)) ⟨rfl, (by obtain ⟨_, _, _, _, _, _, _, _, _, _, _, T, _⟩ := S; exact T.mem.imp fun ps h => .tail _ (.tail _ h)), (by obtain ⟨_, _, _, _, _, _, _, _, _, _, _, _, G⟩ := S; exact G.imp fun ps h => .tail _ (.tail _ h))⟩
end


section
theorem decs_all (n : Nat) : (decs n).all isDig = true := by
  induction n using Nat.strongRecOn with
  | ind n ih =>
    rw [decs]
    split
    · simp [isDig]
      omega
    · rw [List.all_append, ih (n / 10) (by omega)]
      simp [isDig]
      omega
theorem numAcc_decs (n : Nat) : numAcc (decs n) = (n : Int) := by
  induction n using Nat.strongRecOn with
  | ind n ih =>
    rw [decs]
    split
    · simp [numAcc]
      omega
    · rw [numAcc_snoc, ih (n / 10) (by omega)]
      omega
theorem decs_fit {n k : Nat} (h : n ≤ 2 ^ k) : (decs n).length ≤ k + 1 := by
  refine decs_len k n (Nat.lt_of_le_of_lt h ?_)
  exact Nat.lt_of_le_of_lt (Nat.pow_le_pow_left (by decide) k) (Nat.pow_lt_pow_right (by decide) (Nat.lt_succ_self k))
theorem read_write {n wd : Int} (h1 : 5 ≤ wd) (hf : fitsB n wd = true) : readT (writeT n) wd = some n := by
  have hf' := hf
  unfold fitsB at hf
  rw [Bool.and_eq_true, decide_eq_true_eq, decide_eq_true_eq] at hf
  obtain ⟨a1, a2⟩ := hf
  have hp : ((2 ^ (wd - 1).toNat : Nat) : Int) = (2 : Int) ^ (wd - 1).toNat := by rw [Int.natCast_pow]; rfl
  rw [← hp] at a1 a2
  have hl : (decs n.natAbs).length ≤ (wd - 1).toNat + 1 := decs_fit (by omega)
  have hl2 : ((decs n.natAbs).length : Int) ≤ wd := by omega
  have hne : decs n.natAbs ≠ [] := fun e => by have := decs_pos n.natAbs; rw [e] at this; exact absurd this (by decide)
  have ha := decs_all n.natAbs
  have hn := numAcc_decs n.natAbs
  unfold readT writeT
  by_cases h : n < 0
  · rw [if_pos h]
    show readL (45 :: decs n.natAbs) wd = some n
    unfold readL
    have hs : signed 45 = true := by decide
    simp only [hs, if_true]
    rw [if_neg (by rintro (q | q | q); exact hne q; omega; rw [ha] at q; cases q), hn]
    have e : -((n.natAbs : Nat) : Int) = n := by omega
    rw [e, if_pos hf']
  · rw [if_neg h]
    show readL (decs n.natAbs) wd = some n
    cases hd : decs n.natAbs with
    | nil => exact absurd hd hne
    | cons c r =>
      rw [hd] at hl2 ha hn
      have hc : isDig c = true := by
        rw [List.all_cons, Bool.and_eq_true] at ha
        exact ha.1
      have hc2 : 48 ≤ c ∧ c ≤ 57 := by
        unfold isDig at hc
        simpa using hc
      have hs : signed c = false := by
        unfold signed
        simp
        omega
      have h45 : ¬ c = 45 := by omega
      unfold readL
      simp only [hs, Bool.false_eq_true, if_false, if_neg h45]
      rw [if_neg (by rintro (q | q | q); cases q; omega; rw [ha] at q; cases q), hn]
      have e : ((n.natAbs : Nat) : Int) = n := by omega
      rw [e, if_pos hf']

end

section
theorem triples_str {ps : List Value} {x : Str} {t : Tok} (h : TriplesOk ps) : ps[1]? ≠ some (.str x t) := by
  match ps, h with
  | [], _ => intro e; cases e
  | [_], h => simp [TriplesOk] at h
  | [_, _], h => simp [TriplesOk] at h
  | a :: b :: c :: r, h =>
    intro e
    have e' : b = .str x t := by simpa using e
    subst e'
    unfold TriplesOk at h
    simp_all
section
variable {w : World} {bv : Value} {bl cl : Addr} {B : Int} {wd ml : Int} {wv : Value} {ns ns' : List (Addr × Obj)} {h₀ h : Heap} {L P : Addr} {oP : Obj} {v : V} {val : Value} {qual : Str} {A : Addr}
theorem Bears.offC (N : News h₀ L h ns) (hP : (P, oP) ∈ ns) (c1 : ∀ C, oP.cls ≠ .ref C) (c2 : oP.cls ≠ .type "dict") (c3 : oP.cls ≠ .type "tuple") (k : ∀ p ∈ ns, p.1 ≠ P → p ∈ ns') (hb : Bears w ns v val) : Bears w ns' v val := by
  exact hb.via (fun _ _ _ hm => k _ hm (ne_of_obj N hm hP fun e => c1 _ e.symm)) (fun _ _ _ hm => k _ hm (ne_of_obj N hm hP fun e => c2 e.symm)) (fun _ _ _ hm => k _ hm (ne_of_obj N hm hP fun e => c3 e.symm))
theorem Wrd.offC (N : News h₀ L h ns) (hP : (P, oP) ∈ ns) (c1 : ∀ C, oP.cls ≠ .ref C) (c2 : oP.cls ≠ .type "dict") (k : ∀ p ∈ ns, p.1 ≠ P → p ∈ ns') (W : Wrd ns wv wd ml) : Wrd ns' wv wd ml := by
  obtain ⟨p, d, es, n, t1, t2, e, h1, h2, r⟩ := W
  exact ⟨p, d, es, n, t1, t2, e, k _ h1 (ne_of_obj N h1 hP fun e => c1 _ e.symm), k _ h2 (ne_of_obj N h2 hP fun e => c2 e.symm), r⟩
theorem BoxAt.offC (N : News h₀ L h ns) (hP : (P, oP) ∈ ns) (c : oP.cls ≠ .type "list") (k : ∀ p ∈ ns, p.1 ≠ P → p ∈ ns') (W : BoxAt B ns bv bl cl) : BoxAt B ns' bv bl cl := by
  obtain ⟨i, h, t1, t2, n, vs, xs, m, e, h1, h2, r⟩ := W
  exact ⟨i, h, t1, t2, n, vs, xs, m, e, k _ h1 (ne_of_obj N h1 hP fun e => c e.symm), k _ h2 (ne_of_obj N h2 hP fun e => c e.symm), r⟩
theorem TabW.offC (N : News h₀ L h ns) (hP : (P, oP) ∈ ns) (hA : A ≠ P) (c : ∀ vs x t, oP.data = .fields vs → vs[1]? ≠ some (.str x t)) (k : ∀ p ∈ ns, p.1 ≠ P → p ∈ ns') (T : TabW qual ns A) : TabW qual ns' A := by
  obtain ⟨ps, g1, g2, g3⟩ := T
  refine ⟨ps, k _ g1 hA, g2, fun pos v e => ?_⟩
  obtain ⟨c', oc, vs, t, e1, e2, e3, e4, e5⟩ := g3 pos v e
  exact ⟨c', oc, vs, t, e1, k _ e2 (ne_of_data N e2 hP fun q => c vs qual t (q.symm.trans e4) e5), e3, e4, e5⟩
/-- the pair of the turn before -/
noncomputable def LastIs (w : World) (ns : List (Addr × Obj)) (lv : Value) : Prop := lv = .none ∨ ∃ v val tp t c, lv = .ref tp ∧ (tp, tupO [val, .str (Str.ofString v.kind) t] c) ∈ ns ∧ Bears w ns v val ∧ v.ok
theorem LastIs.more {lv : Value} (k : ∀ p ∈ ns, p ∈ ns') (H : LastIs w ns lv) : LastIs w ns' lv := by
  rcases H with e | ⟨v, val, tp, t, c, e, h1, h2, h3⟩
  · exact .inl e
  · exact .inr ⟨v, val, tp, t, c, e, k _ h1, h2.more k, h3⟩
theorem LastIs.offC {lv : Value} (N : News h₀ L h ns) (hP : (P, oP) ∈ ns) (c1 : ∀ C, oP.cls ≠ .ref C) (c2 : oP.cls ≠ .type "dict") (c3 : oP.cls ≠ .type "tuple") (k : ∀ p ∈ ns, p.1 ≠ P → p ∈ ns') (H : LastIs w ns lv) : LastIs w ns' lv := by
  rcases H with e | ⟨v, val, tp, t, c, e, h1, h2, h3⟩
  · exact .inl e
  · exact .inr ⟨v, val, tp, t, c, e, k _ h1 (ne_of_obj N h1 hP fun e => c3 e.symm), h2.offC N hP c1 c2 c3 k, h3⟩
/-- what stands between the statements of law -/
noncomputable def LWS (w : World) (bv wv : Value) (bl cl : Addr) (B wd : Int) (lv : Value) (ns : List (Addr × Obj)) : Prop :=
  BoxAt B ns bv bl cl ∧ Wrd ns wv wd 5000 ∧ TabW (Str.ofString "_law_needs_right.<locals>.<lambda>") ns 403 ∧ TabW (Str.ofString "_law_keywords_right.<locals>.<lambda>") ns 410 ∧ LastIs w ns lv
theorem LWS.more {lv : Value} (k : ∀ p ∈ ns, p ∈ ns') (S : LWS w bv wv bl cl B wd lv ns) : LWS w bv wv bl cl B wd lv ns' := by
  obtain ⟨b, W, T1, T2, l⟩ := S
  exact ⟨b.more k, W.more k, T1.more k, T2.more k, l.more k⟩
theorem LWS.at {lv : Value} (S : LWS w bv wv bl cl B wd lv ns) (_N : News h₀ L h ns') (k : ∀ p ∈ ns, p ∈ ns') : LWS w bv wv bl cl B wd lv ns' := S.more k
theorem LWS.up {lv : Value} {B' : Int} (hB : B ≤ B') (S : LWS w bv wv bl cl B wd lv ns) : LWS w bv wv bl cl B' wd lv ns := by
  obtain ⟨b, W, T1, T2, l⟩ := S
  exact ⟨b.up hB, W, T1, T2, l⟩
theorem LWS.draw {lv : Value} {B' : Int} (N : News h₀ L h ns) (k : ∀ q ∈ ns, q.1 ≠ bl → q ∈ ns') (b' : BoxAt B' ns' bv bl cl) (S : LWS w bv wv bl cl B wd lv ns) : LWS w bv wv bl cl B' wd lv ns' := by
  obtain ⟨b, W, T1, T2, l⟩ := S
  obtain ⟨i, h, t1, t2, n, vs, xs, m, e, h1, h2, r⟩ := b
  have z : ∀ A, (∃ ps, (A, tabObj ps) ∈ ns) → A ≠ bl := fun A ⟨ps, hp⟩ => ne_of_obj N hp h1 (by simp)
  exact ⟨b', W.offC N h1 (fun C q => by cases q) (by simp) k, T1.offC N h1 (z _ T1.mem) (fun vs x t q => by cases q) k, T2.offC N h1 (z _ T2.mem) (fun vs x t q => by cases q) k, l.offC N h1 (fun C q => by cases q) (by simp) (by simp) k⟩
theorem LWS.tab {lv : Value} (N : News h₀ L h ns) (k : ∀ q ∈ ns, q.1 ≠ 403 → q ∈ ns') (T' : TabW (Str.ofString "_law_needs_right.<locals>.<lambda>") ns' 403) (S : LWS w bv wv bl cl B wd lv ns) : LWS w bv wv bl cl B wd lv ns' := by
  obtain ⟨b, W, T1, T2, l⟩ := S
  obtain ⟨ps, hP, ht, -⟩ := T1
  exact ⟨b.offC N hP (by simp) k, W.offC N hP (fun C q => by cases q) (by simp) k, T', T2.offC N hP (by decide) (fun vs x t q => by
    cases q
    intro z
    exact triples_str ht (by simpa using z)) k, l.offC N hP (fun C q => by cases q) (by simp) (by simp) k⟩
theorem LWS.iter {lv : Value} {x y z : Int} (N : News h₀ L h ns) (hP : (P, oP) ∈ ns) (hc : oP.cls = .type "range_iterator") (hd : oP.data = .fields #[rawInt x, rawInt y, rawInt z]) (k : ∀ q ∈ ns, q.1 ≠ P → q ∈ ns') (S : LWS w bv wv bl cl B wd lv ns) : LWS w bv wv bl cl B wd lv ns' := by
  obtain ⟨b, W, T1, T2, l⟩ := S
  have d : ∀ (vs : Array Value) (x : Str) (t : Tok), oP.data = .fields vs → vs[1]? ≠ some (.str x t) := fun vs x t q => by
    rw [hd] at q
    cases q
    simp [rawInt]
  have z : ∀ A, (∃ ps, (A, tabObj ps) ∈ ns) → A ≠ P := fun A ⟨ps, hp⟩ => ne_of_obj N hp hP (by rw [hc]; simp)
  exact ⟨b.offC N hP (by rw [hc]; simp) k, W.offC N hP (fun C q => by rw [hc] at q; cases q) (by rw [hc]; simp) k, T1.offC N hP (z _ T1.mem) d k, T2.offC N hP (z _ T2.mem) d k,
    l.offC N hP (fun C q => by rw [hc] at q; cases q) (by rw [hc]; simp) (by rw [hc]; simp) k⟩
theorem LWS.last {lv lv' : Value} (S : LWS w bv wv bl cl B wd lv ns) (l : LastIs w ns lv') : LWS w bv wv bl cl B wd lv' ns := by
  obtain ⟨b, W, T1, T2, -⟩ := S
  exact ⟨b, W, T1, T2, l⟩
end
/-- what stands between the turns -/
noncomputable def LJ (w : World) (bv wv : Value) (bl cl : Addr) (B wd : Int) (m₀ : Str → Option Value) (i : Nat) (m : Str → Option Value) (ns : List (Addr × Obj)) : Prop :=
  ∃ u1 u2 u3 lv, (m = fun y => if y = Str.ofString "kind" then u1 else if y = Str.ofString "value" then u2 else if y = Str.ofString "turn" then u3 else if y = Str.ofString "last" then some lv else m₀ y) ∧ LWS w bv wv bl cl (B + 40 * (i : Int)) wd lv ns
theorem LJ.start {w : World} {bv wv : Value} {bl cl : Addr} {B wd : Int} {m₀ : Str → Option Value} {lv : Value} {ns : List (Addr × Obj)} (hm : m₀ (Str.ofString "last") = some lv) (S : LWS w bv wv bl cl B wd lv ns) : LJ w bv wv bl cl B wd m₀ 0 m₀ ns := by
  refine ⟨m₀ (Str.ofString "kind"), m₀ (Str.ofString "value"), m₀ (Str.ofString "turn"), lv, ?_, S.up (by omega)⟩
  funext y
  by_cases e1 : y = Str.ofString "kind"
  · simp only [if_pos e1]; rw [e1]
  · by_cases e2 : y = Str.ofString "value"
    · simp only [if_neg e1, if_pos e2]; rw [e2]
    · by_cases e3 : y = Str.ofString "turn"
      · simp only [if_neg e1, if_neg e2, if_pos e3]; rw [e3]
      · by_cases e4 : y = Str.ofString "last"
        · simp only [if_neg e1, if_neg e2, if_neg e3, if_pos e4]; rw [e4, hm]
        · simp only [if_neg e1, if_neg e2, if_neg e3, if_neg e4]
theorem TabW.draw {qual : Str} {A : Addr} {bv : Value} {bl cl : Addr} {B : Int} {ns ns' : List (Addr × Obj)} {h₀ h : Heap} {L : Addr} (N : News h₀ L h ns) (b : BoxAt B ns bv bl cl) (k : ∀ q ∈ ns, q.1 ≠ bl → q ∈ ns') (T : TabW qual ns A) : TabW qual ns' A := by
  obtain ⟨i, h, t1, t2, n, vs, xs, m, e, h1, h2, r⟩ := b
  obtain ⟨ps, hp⟩ := T.mem
  exact T.offC N h1 (ne_of_obj N hp h1 (by simp)) (fun vs x t q => by cases q) k
theorem law_locals {a b c l u1 u2 u3 lv : Option Value} {m₀ : Str → Option Value} : (fun y => if y = Str.ofString "last" then l else if y = Str.ofString "kind" then a else if y = Str.ofString "value" then b else if y = Str.ofString "turn" then c else if y = Str.ofString "kind" then u1 else if y = Str.ofString "value" then u2 else if y = Str.ofString "turn" then u3 else if y = Str.ofString "last" then lv else m₀ y) =
    fun y => if y = Str.ofString "kind" then a else if y = Str.ofString "value" then b else if y = Str.ofString "turn" then c else if y = Str.ofString "last" then l else m₀ y := by
  have n1 : ¬ Str.ofString "last" = Str.ofString "kind" := by decide +kernel
  have n2 : ¬ Str.ofString "last" = Str.ofString "value" := by decide +kernel
  have n3 : ¬ Str.ofString "last" = Str.ofString "turn" := by decide +kernel
  funext y
  by_cases e4 : y = Str.ofString "last"
  · rw [e4]
    simp only [if_neg n1, if_neg n2, if_neg n3, if_true]
  · simp only [if_neg e4]
    by_cases e1 : y = Str.ofString "kind"
    · simp only [if_pos e1]
    · by_cases e2 : y = Str.ofString "value"
      · simp only [if_neg e1, if_pos e2]
      · by_cases e3 : y = Str.ofString "turn"
        · simp only [if_neg e1, if_neg e2, if_pos e3]
        · simp only [if_neg e1, if_neg e2, if_neg e3]
theorem LWS.turn {w : World} {bv wv : Value} {bl cl : Addr} {B B' wd : Int} {lv val : Value} {ns : List (Addr × Obj)} {h₀ h : Heap} {L T I : Addr} {oI : Obj} {v : V} {t : Tok} {c : Nat} (N : News h₀ L h ((T, tupO [val, .str (Str.ofString v.kind) t] c) :: ns)) (mI : (I, oI) ∈ ns) (hcI : oI.cls = .type "range_iterator") (hdI : ∃ x y z, oI.data = .fields #[rawInt x, rawInt y, rawInt z])
    (hbv : Bears w ns v val) (hok : v.ok) (hB : B ≤ B') (S : LWS w bv wv bl cl B wd lv ns) : LWS w bv wv bl cl B' wd (.ref T) (except I ((T, tupO [val, .str (Str.ofString v.kind) t] c) :: ns)) := by
  obtain ⟨x, y, z, hd⟩ := hdI
  exact (((S.more fun q hq => .tail _ hq).last (lv' := .ref T) (.inr ⟨v, val, T, t, c, rfl, .head _, hbv.more fun q hq => .tail _ hq, hok⟩)).up hB).iter N (.tail _ mI) hcI hd fun q hq hn => mem_except.mpr ⟨hq, hn⟩

end

section
theorem and3 {a b c G : Prop} (h : a ∧ b ∧ c) (k : a → b → c → G) : G := k h.1 h.2.1 h.2.2
noncomputable abbrev sndOf {l : OpenLaw} {P Q : Prop} (_h : P ∧ Q → l.Holds) : Prop := Q
theorem up_top {M : Model} {t : Sem Value} {Q E : Value → Shared → Prop} {s : Shared} {d u dp un : Nat} {gd : Option (List Code)} {cn : Str} {cs : Scope} {L a : Addr} {ccd : Value} {cl : List (Str × Addr)} {outer : List Env}
    (h : wpAny M (ktrTop d u none cn cs L a ccd cl outer) t Q E s) (hd : dp ≤ d) (hu : un ≤ u) : wpAny M (ktrTop dp un gd cn cs L a ccd cl outer) t Q E s := by
  intro Γ p hΓ
  obtain ⟨g1, g2, g3, g4, g5⟩ := hΓ
  exact h Γ p ⟨g1, Nat.le_trans g2 hd, g3, fun _ e => (by cases e), Nat.le_trans g5 hu⟩
section
local macro_rules | `(tactic| walk_at "exec For Name Call cons nil") => forR "For_turns" "$?" ""
local macro_rules | `(tactic| k_steps) => steps [363, 358, 265, 380, 401, 408, 240, 394, 247, 413] ["pyIter _"]
local macro_rules | `(tactic| walk_at "my ki") => steps [363, 358, 265, 380, 401, 408, 240, 394, 247, 413] ["exec Stmt.If:4 _", "pyIter _"]
theorem keyed_of {v : V} (h : ([Str.ofString "STRING", Str.ofString "INTEGER", Str.ofString "NODE"].any fun x => x == Str.ofString v.kind) = true) : v.keyed = true := by
  cases v <;> first | rfl | (exfalso; revert h; dsimp only [V.kind]; decide +kernel)
theorem useB {w : World} {d u : Nat} {f : Addr} {vs : List Value} {pre : List (Addr × Obj) → Prop} {post : List (Addr × Obj) → Value → List (Addr × Obj) → Prop}
    (C : TellsB w d u f vs pre post) {dp un : Nat} {gd : Option (List Code)} {cn : Str} {sn : List (Str × NameKind)} {sg sc : Bool} {sm : List (Str × Const)} {a : Addr} {ccd : Value} {cl : List (Str × Addr)} {A₀ : Around} {base h₀ : Heap} {L : Addr} {m : Str → Option Value}
    {news : List (Addr × Obj)} {s : Shared} {Q E : Value → Shared → Prop} {mean : ExcName → Option Value} {mg mb : Str → Option Value}
 (XB : (hd.heap_1 w.params).In base) (TB : Top topProg LS mean mg mb base)
    (C7 : CodeHd base 407 403) (C12 : CodeHd base 412 410) (hp : pre news)
    (k : ∀ v news' h' tk', Fr h₀ L h' m → News h₀ L h' news' → post news v news' → Q v { s with heap := h', toks := tk' })
    (hdp : dp ≤ d := by k_units) (hu : un ≤ u := by k_units) (B : Below A₀ base [] h₀ := by k_asm) (F : Fr h₀ L s.heap m := by k_asm) (X : (hd.heap_1 w.params).In h₀ := by k_asm) (N : News h₀ L s.heap news := by k_asm) (T : Top topProg LS mean mg mb h₀ := by k_asm) :
    wpAny (model PySem.Challenge.rw_np0298_01.row.prog w) (ktrTop dp un gd cn ⟨.function, sn, sg, sc, sm⟩ L a ccd cl []) (call (.ref f) vs) Q E s :=
  up_top (C cn sn sg sc sm a ccd cl A₀ base h₀ L m news s Q E mean mg mb B F X N T XB TB C7 C12 hp k) hdp hu
theorem walkLaw : sndOf hd := by
  k_go0
  (all_goals try k_fold)
  (rename World => w)
  (rename IntsAre _ _ => hIA)
  (rename Heap.IsList (ghostOf _ _) _ _ => hLA)
  (rename ¬ _ < _ => hlen)
  (rename Below _ _ _ _ => hBB)
  k_steps
  refine up_top (d := 650) (u := 700) (c_box w _ _ _ hIA (by omega) _ _ _ _ _ _ _ _ _ _ _ _ _ _ _ _ _ _ _ _ _ hBB (by k_asm) (by k_asm) (by k_asm) (by k_asm) hLA ?_) (by k_units) (by k_units)
  intro bv bl cl0 n1 h1 tk1 F1 N1 hk1 hb
  have hT1 : TabW (Str.ofString "_law_needs_right.<locals>.<lambda>") n1 403 := .nil (hk1 _ (.tail _ (.head _)))
  have hT2 : TabW (Str.ofString "_law_keywords_right.<locals>.<lambda>") n1 410 := .nil (hk1 _ (.head _))
  clear hk1
  k_steps
  (rename News _ _ _ n1 => lN)
  ((((try k_fold); refine' useDr (c_draw w bv bl cl0 _ _ _ ?q1 ?q2 ?q3) hb ?_; (case q1 => omega); (case q2 => decide); (case q3 => decide)); intro f dt n9 h9 tk9 f1 f2 F9 N9 hb2 dk))
  replace hT1 := hT1.draw lN hb dk
  replace hT2 := hT2.draw lN hb dk
  clear lN hb dk
  k_steps
  obtain ⟨wd, hwd⟩ : ∃ wd, wd = 5 + f := ⟨_, rfl⟩
  have w1 : 5 ≤ wd := by omega
  have w2 : wd ≤ 40 := by omega
  refine' c_world w (5 + f) _ (by omega) (by omega) ?q3 ?q4 ?B ?F ?X ?N ?T ?_
  case q3 => k_units
  case q4 => k_units
  case B => k_asm
  case F => k_asm
  case X => k_asm
  case N => k_asm
  case T => k_asm
  intro wv n2 h2 tk2 F2 N2 hk2 hW
  have S : LWS w bv wv bl cl0 0 (5 + f) .none n2 := ⟨hb2.more hk2, hW, hT1.more hk2, hT2.more hk2, .inl rfl⟩
  rw [← hwd] at S F2
  clear hW hb2 hT1 hT2 hk2 f1 f2
  k_steps
  (rename News _ _ _ (_ :: n2) => lN)
  replace S := S.at lN fun q hq => .tail _ hq
  obtain ⟨hb, -⟩ := id S
  ((((try k_fold); refine' useDr (c_draw w bv bl cl0 _ _ _ ?q1 ?q2 ?q3) hb ?_; (case q1 => omega); (case q2 => decide); (case q3 => decide)); intro f dt n9 h9 tk9 f1 f2 F9 N9 hb2 dk))
  replace S := S.draw lN dk hb2
  clear lN hb dk hb2
  k_steps
  (rename Fr _ _ _ _ => lF)
  (rename News _ _ _ n9 => lN)
  (rename IsRange _ _ _ _ _ _ _ _ => lR)
  refine iterR (LJ w bv wv bl cl0 (0 + 1) wd _) rfl lF lN lR (n := (1 + f - 0).toNat) (small_one (by decide) (by decide) (by omega) (by omega)) (rangeSize_nat _ _) (LJ.start rfl S) ?_ ?_
  --{
  · intro i t m₁ nx I oI h tk hi S9 F₁ N₁ hcI hdI hI
    refine hideG fun H9 hG9 => ?_
    obtain ⟨u1, u2, u3, lv, rfl, S⟩ := S9
    refine hG9 ?_
    clear hG9 H9
    have hi2 : i < 10 := by omega
    clear lF lN lR
    have S1 := S.at N₁ fun q hq => .tail _ hq
    have mI : (I, oI) ∈ (I, oI) :: nx := .head _
    clear S
    generalize hns : ((I, oI) :: nx : List (Addr × Obj)) = ns at *
    clear hns
    k_steps
    obtain ⟨hb, -⟩ := id S1
    try k_fold
    refine' use (c_value w bv bl cl0 _ wd _ w1 w2 (by omega)) hb ?_
    intro v9 n3 h9 tk9 F9 N9 S9
    refine hideG fun H9 hG9 => ?_
    obtain ⟨⟨v, val, vp, vt, vc, rfl, hvp, hbv, hok, hfit⟩, hb2, dk⟩ := S9
    refine hG9 ?_
    clear hG9 H9
    (rename News _ _ _ ns => lN)
    replace mI := dk _ mI (hb.ne lN mI (by rw [hcI]; simp))
    replace S1 := S1.draw lN dk hb2
    clear lN hb hb2 dk
    walk_at "my ki"
    (rename Fr _ _ _ _ => lF)
    (rename News _ _ _ n3 => lN0)
    refine cut_st (fun ns => (I, oI) ∈ ns ∧ Bears w ns v val ∧ LWS w bv wv bl cl0 (0 + 1 + 40 * (i : Int) + 20) wd lv ns) lF ?_ ?_
    · k_fold
      k_steps
      · exact absurd (by with_reducible assumption : (Str.ofString v.kind != Str.ofString v.kind) = true) (by simp)
      · try k_fold
        refine' useM (c_cvr w v val wv wd _ _ w1 w2 hok) ⟨hbv, S1.2.1⟩ ?_
        intro n4 h9 tk9 F9 N9 hk
        k_steps
        exact StCut.intro (by assumption) (by with_reducible assumption) ⟨hk _ mI, hbv.more hk, S1.more hk⟩
    clear lF lN0 hvp hbv mI S1
    intro h11 tk11 n5 lF lN0 S9
    refine and3 S9 fun mI hbv S1 => ?_
    clear S9
    walk_at "my ki"
    refine cut_st (fun ns => (I, oI) ∈ ns ∧ Bears w ns v val ∧ LWS w bv wv bl cl0 (0 + 1 + 40 * (i : Int) + 20) wd lv ns) lF ?_ ?_
    · k_fold
      k_steps
      try k_fold
      refine' useB (c_nright w v val wd _ _ w1 w2 hok) ?k6 ?k7 ?k8 ?k9 ⟨hbv, S1.2.2.1⟩ ?_
      case k6 => k_asm
      case k7 => k_asm
      case k8 => assumption
      case k9 => assumption
      rintro v9 n6 h9 tk9 F9 N9 ⟨rfl, hk, hT'⟩
      k_steps
      have h403 : I ≠ 403 := by
        obtain ⟨ps, hP⟩ := S1.2.2.1.mem
        exact ne_of_obj lN0 mI hP (by rw [hcI]; simp)
      exact StCut.intro (by assumption) (by with_reducible assumption) ⟨hk _ mI h403, hbv.tab lN0 S1.2.2.1 hk, S1.tab lN0 hk hT'⟩
    clear lF lN0 hbv mI S1
    intro h12 tk12 n7 lF lN0 S9
    refine and3 S9 fun mI hbv S1 => ?_
    clear S9
    walk_at "my ki"
    refine cut_st (fun ns => (I, oI) ∈ ns ∧ Bears w ns v val ∧ LWS w bv wv bl cl0 (0 + 1 + 40 * (i : Int) + 20) wd lv ns) lF ?_ ?_
    · k_fold
      cases hvi : v.isI
      · k_steps
        exact StCut.intro (by assumption) (by with_reducible assumption) ⟨mI, hbv, S1⟩
      · obtain ⟨n, rfl⟩ := V.toInt hvi
        obtain ⟨t9, rfl⟩ := id hbv
        have hwl : (writeT n).length ≤ 100 := writeT_len hok
        have hrw := read_write w1 (hfit n rfl)
        k_steps
        · exact absurd (by with_reducible assumption : (writeT n != writeT n) = true) (by simp)
        · rw [hrw]
          dsimp only [optV]
          k_steps
          · exact absurd rfl (by with_reducible assumption)
          · exact StCut.intro (by assumption) (by with_reducible assumption) ⟨mI, hbv, S1⟩
    clear lF lN0 hbv mI S1
    intro h13 tk13 n8 lF lN0 S9
    refine and3 S9 fun mI hbv S1 => ?_
    clear S9
    walk_at "my ki"
    refine cut_st (fun ns => (I, oI) ∈ ns ∧ Bears w ns v val ∧ LWS w bv wv bl cl0 (0 + 1 + 40 * (i : Int) + 20) wd lv ns) lF ?_ ?_
    · k_fold
      refine hideG fun H9 hG9 => ?_
      rcases S1.2.2.2.2 with rfl | ⟨v', val', tp, tt, tc, rfl, htp, hbv', hok'⟩
      all_goals refine hG9 ?_
      all_goals clear hG9 H9
      · k_steps
        exact StCut.intro (by assumption) (by with_reducible assumption) ⟨mI, hbv, S1⟩
      · k_steps
        try k_fold
        refine' useE (c_same w v' v val' val hok' hok) ⟨hbv', hbv⟩ ?_
        intro h9 tk9 F9 N9
        k_steps
        ((((try k_fold); refine' useM (c_alike w v' v val' val tp _ tt _ tc _ hok' hok) ⟨hbv'.more ?m1, hbv.more ?m1, ?m2, .head _⟩ ?_; (case m2 => exact .tail _ htp); (case m1 => exact fun q hq => .tail _ hq)); intro n10 h9 tk9 F9 N9 hk; replace hk := fun q hq => hk q (.tail _ hq)))
        k_steps
        · first | exact absurd rfl (by with_reducible assumption) | exact absurd (by with_reducible assumption : (v'.same v != v'.same v) = true) (by simp)
        · exact StCut.intro (by assumption) (by with_reducible assumption) ⟨hk _ mI, hbv.more hk, S1.more hk⟩
    clear lF lN0 hbv mI S1
    intro h14 tk14 n9 lF lN0 S9
    refine and3 S9 fun mI hbv S1 => ?_
    clear S9
    walk_at "my ki"
    refine cut_st (fun ns => (I, oI) ∈ ns ∧ Bears w ns v val ∧ LWS w bv wv bl cl0 (0 + 1 + 40 * (i : Int) + 20) wd lv ns) lF ?_ ?_
    · k_fold
      refine hideG fun H9 hG9 => ?_
      rcases S1.2.2.2.2 with rfl | ⟨v', val', tp, tt, tc, rfl, htp, hbv', hok'⟩
      all_goals refine hG9 ?_
      all_goals clear hG9 H9
      · k_steps
        all_goals (((rename News _ _ _ _ => lNx); first | exact StCut.intro (by assumption) lNx ⟨mI, hbv, S1⟩ | exact StCut.intro (by assumption) lNx ⟨.tail _ mI, hbv.more (fun q hq => .tail _ hq), S1.more (fun q hq => .tail _ hq)⟩ | exact StCut.intro (by assumption) lNx ⟨.tail _ (.tail _ mI), hbv.more (fun q hq => .tail _ (.tail _ hq)), S1.more (fun q hq => .tail _ (.tail _ hq))⟩))
      · k_steps
        · have ky := keyed_of (by with_reducible assumption : ([Str.ofString "STRING", Str.ofString "INTEGER", Str.ofString "NODE"].any fun x => x == Str.ofString v.kind) = true)
          have ky' := keyed_of (by with_reducible assumption : ([Str.ofString "STRING", Str.ofString "INTEGER", Str.ofString "NODE"].any fun x => x == Str.ofString v'.kind) = true)
          (rename News _ _ _ _ => lNx)
          try k_fold
          refine' use (c_key w v' val' ky') (hbv'.at lNx ?m1) ?_
          case m1 => intro q hq; (first | exact hq | exact .tail _ hq | exact .tail _ (.tail _ hq))
          rintro r1 n11 h9 tk9 F9 N9 ⟨hK1, hk1⟩
          replace hk1 : ∀ q ∈ n9, q ∈ n11 := fun q hq => (by first | exact hk1 q hq | exact hk1 q (.tail _ hq) | exact hk1 q (.tail _ (.tail _ hq)))
          replace mI := hk1 _ mI
          replace hbv := hbv.more hk1
          replace S1 := S1.more hk1
          replace htp := hk1 _ htp
          replace hbv' := hbv'.more hk1
          clear hk1 lNx
          k_steps
          try k_fold
          refine' use (c_key w v val ky) hbv ?_
          rintro r2 n12 h9 tk9 F9 N9 ⟨hK2, hk1⟩
          replace mI := hk1 _ mI
          replace hbv := hbv.more hk1
          replace S1 := S1.more hk1
          replace htp := hk1 _ htp
          replace hbv' := hbv'.more hk1
          replace hK1 := hK1.more hk1
          clear hk1
          (try dsimp only)
          try k_unfold
          try dsimp only
          refine eq_keys N9 hK1 hK2 hok' hok ky' ky (by k_units) ?_
          k_steps
          ((((try k_fold); refine' useM (c_alike w v' v val' val tp _ tt _ tc _ hok' hok) ⟨hbv'.more ?m1, hbv.more ?m1, ?m2, .head _⟩ ?_; (case m2 => exact .tail _ htp); (case m1 => exact fun q hq => .tail _ hq)); intro n10 h9 tk9 F9 N9 hk; replace hk := fun q hq => hk q (.tail _ hq)))
          k_steps
          · first | exact absurd rfl (by with_reducible assumption) | exact absurd (by with_reducible assumption : (v'.same v != v'.same v) = true) (by simp)
          · exact StCut.intro (by assumption) (by with_reducible assumption) ⟨hk _ mI, hbv.more hk, S1.more hk⟩
        all_goals (((rename News _ _ _ _ => lNx); first | exact StCut.intro (by assumption) lNx ⟨mI, hbv, S1⟩ | exact StCut.intro (by assumption) lNx ⟨.tail _ mI, hbv.more (fun q hq => .tail _ hq), S1.more (fun q hq => .tail _ hq)⟩ | exact StCut.intro (by assumption) lNx ⟨.tail _ (.tail _ mI), hbv.more (fun q hq => .tail _ (.tail _ hq)), S1.more (fun q hq => .tail _ (.tail _ hq))⟩))
    clear lF lN0 hbv mI S1
    intro h15 tk15 n13 lF lN0 S9
    refine and3 S9 fun mI hbv S1 => ?_
    clear S9
    k_steps
    (rename Fr _ _ _ _ => lF9)
    (rename News _ _ _ (_ :: n13) => lN9)
    refine ⟨_, _, _, _, rfl, lF9, lN9, .tail _ mI, ?_⟩
    refine ⟨_, _, _, _, law_locals, S1.turn lN9 mI hcI hdI hbv hok (by omega)⟩
  --}
  · intro m₁ nx h tk S9 F₁ N₁
    refine hideG fun H9 hG9 => ?_
    obtain ⟨u1, u2, u3, lv, rfl, S⟩ := S9
    refine hG9 ?_
    clear hG9 H9
    clear lF lN lR
    k_steps
    try k_fold
    refine' useB (c_kyr w bv wv bl cl0 _ wd w1 w2 (by omega)) ?k6 ?k7 ?k8 ?k9 ⟨S.1, S.2.1, S.2.2.2.1, S.2.2.1.mem⟩ ?_
    case k6 => k_asm
    case k7 => k_asm
    case k8 => assumption
    case k9 => assumption
    rintro v9 n4 h9 tk9 F9 N9 ⟨rfl, ⟨ps1, g1⟩, ⟨ps2, g2⟩⟩
    refine And.intro ?_ ⟨GrownAt.of N9 g1, GrownAt.of N9 g2, trivial⟩
    k_end
    wrow_close
end

end

end Mine
theorem PySem.Challenge.cw_np0298_01_holds : PySem.Challenge.rw_np0298_01.Holds :=
  Mine.hd ⟨Mine.left, Mine.walkLaw⟩
