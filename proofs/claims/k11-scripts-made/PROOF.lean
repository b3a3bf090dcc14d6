import PyProof.Rows.All
import Wide.All
import OpenK.AllK
import Wide.FinOn
import HandS.ForMost
import HandS.ForExc
import HandS.TupAny
import HandS.Deep
import HandS.StrMore
import HandS.IsInst
import HandS.Zip
import HandS.Style
import HandS.Star
import KE.GoesMore
import KE.KRevSl
import HandS.Property
import HandS.ClsMeth
import HandS.More
import HandS.OwnEq
import HandS.Nested
import KE.KSuper
import KE.RegKSuper
import HandS.NoneIn
import HandS.Codes
import KE.KOpsOwn
import KE.KTupSum
import HandS.Lambda
import HandS.EndTab
import KE.KExcHand
import HandS.ExcInit
import HandS.ExcField
import HandS.Head2
import HandS.HeadEnd
import HandS.HeadWalk
import HandS.HeadHook4
import HandS.TryOnly
import KE.LtSeq
import KE.KDflt
import HandS.FStr
import HandS.StrSplit
import HandS.ForDict
import HandS.Conv
import HandS.Flow
import HandS.MakeKw
import HandS.ExcCtx
import HandS.GenList
import HandS.Finally
import HandS.HotCalls
import HandS.SuiteRaise
import KE.KExcRaise
import KE.KExcInit
import PyProof.ExcBaseAll.LookupError
import PyProof.ExcBaseAll.IndexError
import PyProof.FString3
import PyProof.Rows.StrIntSpec
import KE.KxField
import PySem.Challenge.RW_countedplace_k11_scripts_made
set_option Elab.async false
set_option linter.all false
set_option maxRecDepth 100000
set_option maxHeartbeats 4000000
set_option autoImplicit false
/-! ### the head, run once in the kernel and seen by a Hook of one's own: what is looked at -/
namespace Y
open PySem PySem.Spec PyProof.Rows L2
abbrev Fr := PySem.W.Frag
/-- a function of the top: where it lies, its two names, its statement, the names of its closure -/
structure FnA where
  ad : Fr → Addr
  nam : Str
  qua : Str
  st : Stmt
  clo : List Str := []
  dfl : Bool := false
abbrev FnO : Type := Option ((Str × Str) × (Arguments × FuncBody × Scope) × (Addr × Addr) × List Str)
def seeF (K : Fr) (a : Addr) : FnO := match K.lookup a with
  | some ⟨_, _, .func d, _⟩ => some ((d.name, d.qualname), (d.params, d.body, d.scope), (d.globals, d.builtins), d.closure.map Prod.fst)
  | _ => none
def FnA.due (x : FnA) : FnO := some ((x.nam, x.qua), (defArgs x.st, .stmts (defBody x.st), defScope x.st), (mainGlobals, builtinsNs), x.clo)
def FnA.ok (K : Fr) (x : FnA) : Bool := match K.lookup (x.ad K) with
  | some ⟨_, _, .func d, _⟩ => PySem.W.codeIn K d.code x.qua && ((x.dfl || decide (d.defaults = .none)) && PySem.W.keepIn K (.ref (x.ad K)))
  | _ => false
/-- two looks that must agree -/
structure Qy where
  α : Type
  dec : DecidableEq α
  l : Fr → α
  r : Fr → α
def Qy.ok (K : Fr) (q : Qy) : Bool := @decide _ (q.dec (q.l K) (q.r K))
theorem Qy.says {K : Fr} {q : Qy} (h : q.ok K = true) : q.l K = q.r K := @of_decide_eq_true _ (q.dec (q.l K) (q.r K)) h
abbrev qy {α : Type} [d : DecidableEq α] (l r : Fr → α) : Qy := ⟨α, d, l, r⟩
abbrev qb (l : Fr → Bool) : Qy := ⟨Bool, inferInstance, l, fun _ => true⟩
/-- what is told of a head -/
structure Tell where
  fns : List FnA
  tab : List He.Tab
  lam : List Str
  chk : List Qy
def lamOk (g : Addr → Option Obj) (K : Fr) (x : Str) : Bool := match PySem.W.tabIn K x with
  | some (c, P) => PySem.W.codeHdIn K c P && (match g P with
    | some o => He.emptyTab o
    | none => false)
  | none => false
abbrev AlY : Type := List FnO × List (Option (List (Option (Str × Int)))) × Bool
def Tell.see (T : Tell) (g : Addr → Option Obj) (K : Fr) : AlY :=
  (T.fns.map fun x => seeF K (x.ad K), T.tab.map fun t => He.dicW K (t.1 K), T.fns.all (FnA.ok K) && (T.chk.all (Qy.ok K) && T.lam.all (lamOk g K)))
def Tell.due (T : Tell) (w : World) : AlY := (T.fns.map FnA.due, T.tab.map fun t => some (He.keysIn w.params t.2), true)
/-- a part of the heap, laid out before it is looked at -/
def frc {α : Type} : Fr → (Fr → α) → α
  | [], k => k []
  | (a, ⟨c, d, t, s⟩) :: r, k => HandSHeadRun.frNat a fun a => frc r fun r => k ((a, ⟨c, d, t, s⟩) :: r)
theorem frc_eq {α : Type} : ∀ (K : Fr) (k : Fr → α), frc K k = k K
  | [], _ => rfl
  | (a, ⟨c, d, t, s⟩) :: r, k => by
    show HandSHeadRun.frNat a (fun a => frc r fun r => k ((a, ⟨c, d, t, s⟩) :: r)) = _
    rw [HandSHeadRun.frNat_eq, frc_eq r]
/-- what an object leads to, as far as a head is asked of it -/
def nextO (o : Obj) : List Addr := match o.data with
  | .dict es _ => es.toList.flatMap fun e => He.refV e.val
  | .func d => He.refV d.code ++ (He.refV d.defaults ++ (He.refV d.kwdefaults ++ d.closure.map Prod.snd))
  | .cls cd => [cd.ns]
  | .fields vs => (match o.cls with
    | .type "code" => []
    | _ => vs.toList.flatMap He.refV)
  | _ => []
def nextA (g : Addr → Option Obj) (a : Addr) : List Addr := match g a with
  | some o => nextO o
  | none => []
def reach (g : Addr → Option Obj) : Nat → List Addr → List Addr
  | 0, _ => []
  | n + 1, as => as.flatMap (nextA g) ++ reach g n (as.flatMap (nextA g))
def parts (g : Addr → Option Obj) (n : Nat) : Fr := He.frT g (mainGlobals :: cStatics :: reach g n [mainGlobals])
structure Says (T : Tell) (w : World) (h : Heap) (K : Fr) : Prop where
  fn : T.fns.map (fun x => seeF K (x.ad K)) = T.fns.map FnA.due
  fo : ∀ x ∈ T.fns, FnA.ok K x = true
  tb : T.tab.map (fun t => He.dicW K (t.1 K)) = T.tab.map fun t => some (He.keysIn w.params t.2)
  ck : ∀ q ∈ T.chk, Qy.ok K q = true
  lm : ∀ x ∈ T.lam, ∃ c P, PySem.W.tabIn K x = some (c, P) ∧ PySem.W.codeHdIn K c P = true ∧ K.lookup P = none ∧ h.get? P = some { cls := .none, data := .fields #[] }
def hookY (n : Nat) (T : Tell) : PySem.W.Hook where
  α := AlY
  obs := fun s => T.see s.heap.get? (parts s.heap.get? n)
  val := fun w => T.due w
  says := fun w h => ∃ K : Fr, K.In h ∧ Says T w h K
  of := fun w s e => by
    refine ⟨parts s.heap.get? n, He.frT_in, ?_⟩
    have e1 := congrArg (fun z : AlY => z.1) e
    have e2 := congrArg (fun z : AlY => z.2.1) e
    have e3 := congrArg (fun z : AlY => z.2.2) e
    have e3 : (T.fns.all (FnA.ok _) && (T.chk.all (Qy.ok _) && T.lam.all (lamOk s.heap.get? (parts s.heap.get? n)))) = true := e3
    obtain ⟨e4, e5⟩ := He.ba e3
    obtain ⟨e6, e7⟩ := He.ba e5
    refine ⟨e1, List.all_eq_true.mp e4, e2, List.all_eq_true.mp e6, fun x hx => ?_⟩
    have h7 := List.all_eq_true.mp e7 x hx
    unfold lamOk at h7
    cases q : PySem.W.tabIn (parts s.heap.get? n) x with
    | none => rw [q] at h7; cases h7
    | some cp =>
      obtain ⟨c, P⟩ := cp
      rw [q] at h7
      obtain ⟨h8, h9⟩ := He.ba h7
      cases q2 : s.heap.get? P with
      | none => rw [q2] at h9; cases h9
      | some o =>
        rw [q2] at h9
        exact ⟨c, P, rfl, h8, He.frT_none q2 h9, by rw [q2, He.emptyTab_eq h9]⟩
  keeps := fun w h h' ⟨K, hK, c⟩ k => ⟨K, PySem.W.Frag.In.keeps hK k, c.fn, c.fo, c.tb, c.ck, fun x hx => by
    obtain ⟨a, P, h1, h2, h3, h4⟩ := c.lm x hx
    exact ⟨a, P, h1, h2, h3, k _ _ h4⟩⟩
/-- the same, off the tree -/
def obY (n : Nat) (T : Tell) (s : PySem.W.SharedT) : AlY := frc (parts (HandSHeadRun.getT s) n) (T.see (HandSHeadRun.getT s))
theorem obY_eq {n : Nat} {T : Tell} (s : PySem.W.SharedT) : obY n T s = (hookY n T).obs s.abs := by
  have e : HandSHeadRun.getT s = s.abs.heap.get? := funext (HandSHeadRun.getT_eq s)
  unfold obY
  rw [frc_eq, e] <;> rfl
def isVal (K : Fr) (C : Addr) (m : Str) (i : Int) : Bool := match PySem.W.findCls K (.ref C) (.type "type") m with
  | some (.val (.int j _)) => decide (j = i)
  | _ => false
def lamC (K : Fr) (x : Str) : Addr := match PySem.W.tabIn K x with
  | some (c, _) => c
  | none => 0
def lamP (K : Fr) (x : Str) : Addr := match PySem.W.tabIn K x with
  | some (_, p) => p
  | none => 0
/-! defs with defaults -/
end Y
/-! ### more that the head looks at -/
namespace Y
open PySem PySem.Spec PyProof.Rows L2
/-- own classes, then the base's mro -/
def refsT (tl : List Value) : List Value → Bool
  | .ref _ :: r => refsT tl r
  | l => l == tl
/-- an own class of exceptions over a base -/
def oexGB (nw : String) (tl : List Value) (K : Fr) (C : Addr) : Bool := match K.lookup C with
  | some ⟨.type t, _, .cls cd, sl⟩ => decide (t = "type") && (cd.hasDict && (!cd.hasDel && ((match cd.mro with
      | .ref C' :: bm => decide (C' = C) && refsT tl bm
      | _ => false) && (match sl.toList with
      | [_, _, _, _, some (.builtin n), _] => decide (n = nw)
      | _ => false))))
  | _ => false
end Y
/-! ### the head's run, looked at in two parts (each a kernel run of its own) -/
namespace Y
open PySem PySem.Spec PySem.W HandSHeadRun
theorem map3 {α β γ δ : Type} {o : Option α} {f : α → β} {g : α → γ} {h : α → δ} {b : β} {c : γ} {d : δ} (h1 : o.map (fun s => (f s, g s)) = some (b, c)) (h2 : o.map h = some d) : o.map (fun s => (f s, g s, h s)) = some (b, c, d) := by
  cases o with
  | none => cases h1
  | some s =>
    injection h1 with h1
    injection h2 with h2
    injection h1 with h1 h3
    show some (f s, g s, h s) = _
    rw [h1, h3, h2]
def RunL (r : OpenRow) (q : Program) (M : Nat) (loose : List PySem.Str) (w : World) : Prop :=
  ∀ os : OsState, (endF (stepQ (denQ tabQ) r.prog w) M r.prog w os).map (fun s => (looksF r.prog (boot_heap w.params) s.abs, seenQ q loose (importedModules r.prog.main.body) (fun s => xlAt q [] s && recOk r.toRowW.records s) s.abs)) = some (true, openGood q loose)
def RunO (r : OpenRow) (H : Hook) (ob : SharedT → H.α) (M : Nat) (w : World) : Prop :=
  ∀ os : OsState, (endF (stepQ (denQ tabQ) r.prog w) M r.prog w os).map ob = some (H.val w)
theorem runEq_of {r : OpenRow} {q : Program} {H : Hook} {ob : SharedT → H.α} {M : Nat} {loose : List PySem.Str} {w : World} (h1 : RunL r q M loose w) (h2 : RunO r H ob M w) : RunEq r q H ob M loose w := fun os => map3 (h1 os) (h2 os)
def Tell.a (T : Tell) : Tell := ⟨T.fns, T.tab, T.lam, []⟩
def Tell.b (T : Tell) : Tell := ⟨[], [], [], T.chk⟩
theorem obY_cut {n : Nat} {T : Tell} {s : SharedT} {w : World} (h1 : obY n T.a s = T.a.due w) (h2 : obY n T.b s = T.b.due w) : obY n T s = T.due w := by
  unfold obY at h1 h2 ⊢
  rw [frc_eq] at h1 h2 ⊢
  have e1 := congrArg (fun z : AlY => z.1) h1
  have e2 := congrArg (fun z : AlY => z.2.1) h1
  have e3 : (T.fns.all (FnA.ok _) && (true && T.lam.all (lamOk _ _))) = true := congrArg (fun z : AlY => z.2.2) h1
  have e4 : (true && (T.chk.all (Qy.ok _) && true)) = true := congrArg (fun z : AlY => z.2.2) h2
  rw [Bool.true_and] at e3 e4
  rw [Bool.and_true] at e4
  obtain ⟨e5, e6⟩ := He.ba e3
  refine Prod.ext e1 (Prod.ext e2 ?_)
  show (T.fns.all (FnA.ok _) && (T.chk.all (Qy.ok _) && T.lam.all (lamOk _ _))) = true
  rw [e5, e6, e4]; rfl
theorem runO_of {r : OpenRow} {n M : Nat} {T : Tell} {w : World} (h1 : RunO r (hookY n T.a) (obY n T.a) M w) (h2 : RunO r (hookY n T.b) (obY n T.b) M w) : RunO r (hookY n T) (obY n T) M w := fun os => by
  have a := h1 os
  have b := h2 os
  cases q : endF (stepQ (denQ tabQ) r.prog w) M r.prog w os with
  | none => rw [q] at a; cases a
  | some s =>
    rw [q] at a b
    injection a with a
    injection b with b
    exact congrArg some (obY_cut a b)
end Y
namespace Z
open PySem PySem.Spec PyProof.Rows L2 Y
def topS (i : Nat) : Stmt := PySem.Challenge.pw_countedplace_k11_scripts_made.main.body.getD i (.Pass ⟨0, 0, 0, 0⟩)
abbrev s_L_open : Stmt := topS 53
abbrev s_InvalidEdit___init__ : Stmt := inClass (topS 5) 0
abbrev s_TooLong___init__ : Stmt := inClass (topS 6) 0
abbrev s_L_refused : Stmt := topS 58
abbrev s_Merge___init__ : Stmt := inClass (topS 51) 0
abbrev s_Script___contains__ : Stmt := inClass (topS 50) 6
abbrev s_Script___eq__ : Stmt := inClass (topS 50) 4
abbrev s_is_symbol : Stmt := topS 33
abbrev s_is_place : Stmt := topS 34
abbrev s_is_edit : Stmt := topS 35
abbrev s_Script___init__ : Stmt := inClass (topS 50) 1
abbrev s_Script___len__ : Stmt := inClass (topS 50) 3
abbrev s_Script___repr__ : Stmt := inClass (topS 50) 5
abbrev s_Script_edits : Stmt := inClass (topS 50) 10
abbrev s_L_draw : Stmt := topS 54
abbrev s_L_any : Stmt := topS 55
abbrev s_L_place : Stmt := topS 59
abbrev s_L_edit : Stmt := topS 60
abbrev s_L_edits : Stmt := topS 61
abbrev s_L_whole : Stmt := topS 56
abbrev s_L_same : Stmt := topS 57
abbrev s_Script___add__ : Stmt := inClass (topS 50) 7
abbrev s_L_script : Stmt := topS 62
abbrev s_law : Stmt := topS 63
def isg_Script : List (Str × Bool) := [("Script", true), ("Merge", false)]
def refTbl : List (Str × Str) := [("InvalidEdit", "at"), ("TooLong", "most")]
abbrev c0 : Qy := qy (fun K => PySem.W.nsIn K mainGlobals "all") (fun K => some none)
abbrev c1 : Qy := qy (fun K => PySem.W.nsIn K mainGlobals "bool") (fun K => some none)
abbrev c2 : Qy := qy (fun K => PySem.W.nsIn K mainGlobals "enumerate") (fun K => some none)
abbrev c3 : Qy := qy (fun K => PySem.W.nsIn K mainGlobals "int") (fun K => some none)
abbrev c4 : Qy := qy (fun K => PySem.W.nsIn K mainGlobals "isinstance") (fun K => some none)
abbrev c5 : Qy := qy (fun K => PySem.W.nsIn K mainGlobals "len") (fun K => some none)
abbrev c6 : Qy := qy (fun K => PySem.W.nsIn K mainGlobals "list") (fun K => some none)
abbrev c7 : Qy := qy (fun K => PySem.W.nsIn K mainGlobals "range") (fun K => some none)
abbrev c8 : Qy := qy (fun K => PySem.W.nsIn K mainGlobals "repr") (fun K => some none)
abbrev c9 : Qy := qy (fun K => PySem.W.nsIn K mainGlobals "str") (fun K => some none)
abbrev c10 : Qy := qy (fun K => PySem.W.nsIn K mainGlobals "tuple") (fun K => some none)
abbrev c11 : Qy := qy (fun K => PySem.W.nsIn K mainGlobals "zip") (fun K => some none)
abbrev c12 : Qy := qy (fun K => PySem.W.nsIn K mainGlobals "ENDS") (fun K => some (some (.ref (He.ga K "ENDS"))))
abbrev c13 : Qy := qb (fun K => He.tupB K "ENDS" [.str "front", .str "back"])
abbrev c14 : Qy := qy (fun K => PySem.W.nsIn K mainGlobals "NUMBERS") (fun K => some (some (.ref (He.ga K "NUMBERS"))))
abbrev c15 : Qy := qb (fun K => He.tupB K "NUMBERS" [.int 1, .int 2])
abbrev c16 : Qy := qy (fun K => PySem.W.nsIn K mainGlobals "Script") (fun K => some (some (.ref (He.ga K "Script"))))
abbrev c17 : Qy := qb (fun K => PySem.W.plainGet K (He.ga K "Script") Str.empty)
abbrev c18 : Qy := qb (fun K => PySem.W.hasDictIn K (He.ga K "Script"))
abbrev c19 : Qy := qb (fun K => PySem.W.plainOver K (He.ga K "Script"))
abbrev c20 : Qy := qy (fun K => PySem.W.findIn K (.ref (He.ga K "Script")) "__setattr__") (fun K => some (some (.builtin "object.__setattr__")))
abbrev c21 : Qy := qy (fun K => PySem.W.findIn K (.ref (He.ga K "Script")) "__repr__") (fun K => some (some (.ref (He.ma K (He.ga K "Script") "__repr__"))))
abbrev c22 : Qy := qb (fun K => PySem.W.isFn K (.ref (He.ma K (He.ga K "Script") "__repr__")))
abbrev c23 : Qy := qy (fun K => PySem.W.findIn K (.ref (He.ga K "Script")) "__len__") (fun K => some (some (.ref (He.ma K (He.ga K "Script") "__len__"))))
abbrev c24 : Qy := qb (fun K => PySem.W.isFn K (.ref (He.ma K (He.ga K "Script") "__len__")))
abbrev c25 : Qy := qy (fun K => PySem.W.findIn K (.ref (He.ga K "Script")) "edits") (fun K => some (some (.ref (He.ma K (He.ga K "Script") "edits"))))
abbrev c26 : Qy := qb (fun K => PySem.W.isFn K (.ref (He.ma K (He.ga K "Script") "edits")))
abbrev c27 : Qy := qy (fun K => PySem.W.findIn K (.ref (He.ga K "Script")) "__contains__") (fun K => some (some (.ref (He.ma K (He.ga K "Script") "__contains__"))))
abbrev c28 : Qy := qb (fun K => PySem.W.isFn K (.ref (He.ma K (He.ga K "Script") "__contains__")))
abbrev c29 : Qy := qy (fun K => PySem.W.mroIn K (He.ga K "Script") (.type "object")) (fun K => some true)
abbrev c30 : Qy := qy (fun K => PySem.W.findIn K (.ref (He.ga K "Script")) "__ne__") (fun K => some (some (.builtin "object.__ne__")))
abbrev c31 : Qy := qy (fun K => PySem.W.findIn K (.ref (He.ga K "Script")) "__eq__") (fun K => some (some (.ref (He.ma K (He.ga K "Script") "__eq__"))))
abbrev c32 : Qy := qb (fun K => PySem.W.isFn K (.ref (He.ma K (He.ga K "Script") "__eq__")))
abbrev c33 : Qy := qb (fun K => PySem.W.selfFirst K (He.ga K "Script"))
abbrev c34 : Qy := qy (fun K => PySem.W.subIn K (.ref (He.ga K "Merge")) (.ref (He.ga K "Script"))) (fun K => some false)
abbrev c35 : Qy := qy (fun K => PySem.W.nsIn K mainGlobals "Merge") (fun K => some (some (.ref (He.ga K "Merge"))))
abbrev c36 : Qy := qb (fun K => PySem.W.makesIn K (He.ga K "Merge"))
abbrev c37 : Qy := qy (fun K => PySem.W.findIn K (.ref (He.ga K "Merge")) "__init__") (fun K => some (some (.ref (He.ma K (He.ga K "Merge") "__init__"))))
abbrev c38 : Qy := qb (fun K => PySem.W.isFn K (.ref (He.ma K (He.ga K "Merge") "__init__")))
abbrev c39 : Qy := qb (fun K => PySem.W.keepIn K (.ref (He.ga K "Merge")))
abbrev c40 : Qy := qy (fun K => PySem.W.subIn K (.type "NoneType") (.ref (He.ga K "Script"))) (fun K => some false)
abbrev c41 : Qy := qy (fun K => PySem.W.subIn K (.type "bool") (.ref (He.ga K "Script"))) (fun K => some false)
abbrev c42 : Qy := qy (fun K => PySem.W.subIn K (.type "int") (.ref (He.ga K "Script"))) (fun K => some false)
abbrev c43 : Qy := qy (fun K => PySem.W.subIn K (.type "str") (.ref (He.ga K "Script"))) (fun K => some false)
abbrev c44 : Qy := qy (fun K => PySem.W.subIn K (.type "list") (.ref (He.ga K "Script"))) (fun K => some false)
abbrev c45 : Qy := qy (fun K => PySem.W.subIn K (.type "tuple") (.ref (He.ga K "Script"))) (fun K => some false)
abbrev c46 : Qy := qy (fun K => PySem.W.nsIn K mainGlobals "NothingLeft") (fun K => some (some (.ref (He.ga K "NothingLeft"))))
abbrev c47 : Qy := qy (fun K => PySem.W.nsIn K mainGlobals "InvalidCommand") (fun K => some (some (.ref (He.ga K "InvalidCommand"))))
abbrev c48 : Qy := qy (fun K => PySem.W.nsIn K mainGlobals "Carried") (fun K => some (some (.ref (He.ga K "Carried"))))
abbrev c49 : Qy := qy (fun K => PySem.W.nsIn K mainGlobals "UnknownVersion") (fun K => some (some (.ref (He.ga K "UnknownVersion"))))
abbrev c50 : Qy := qy (fun K => PySem.W.nsIn K mainGlobals "Untraced") (fun K => some (some (.ref (He.ga K "Untraced"))))
abbrev c51 : Qy := qy (fun K => PySem.W.nsIn K mainGlobals "UnknownName") (fun K => some (some (.ref (He.ga K "UnknownName"))))
abbrev c52 : Qy := qy (fun K => PySem.W.nsIn K mainGlobals "OrderMatters") (fun K => some (some (.ref (He.ga K "OrderMatters"))))
abbrev c53 : Qy := qy (fun K => PySem.W.nsIn K mainGlobals "NoCarry") (fun K => some (some (.ref (He.ga K "NoCarry"))))
abbrev c54 : Qy := qy (fun K => PySem.W.nsIn K mainGlobals "DuplicateName") (fun K => some (some (.ref (He.ga K "DuplicateName"))))
abbrev c55 : Qy := qy (fun K => PySem.W.nsIn K mainGlobals "InvalidName") (fun K => some (some (.ref (He.ga K "InvalidName"))))
abbrev c56 : Qy := qy (fun K => PySem.W.nsIn K mainGlobals "Different") (fun K => some (some (.ref (He.ga K "Different"))))
abbrev c57 : Qy := qy (fun K => PySem.W.nsIn K mainGlobals "Conflicting") (fun K => some (some (.ref (He.ga K "Conflicting"))))
abbrev c58 : Qy := qy (fun K => PySem.W.nsIn K mainGlobals "CapacityExceeded") (fun K => some (some (.ref (He.ga K "CapacityExceeded"))))
abbrev c59 : Qy := qy (fun K => PySem.W.nsIn K mainGlobals "TooLong") (fun K => some (some (.ref (He.ga K "TooLong"))))
abbrev c60 : Qy := qy (fun K => PySem.W.nsIn K mainGlobals "ParseError") (fun K => some (some (.ref (He.ga K "ParseError"))))
abbrev c61 : Qy := qy (fun K => PySem.W.nsIn K mainGlobals "Conflict") (fun K => some (some (.ref (He.ga K "Conflict"))))
abbrev c62 : Qy := qy (fun K => PySem.W.nsIn K mainGlobals "InvalidEdit") (fun K => some (some (.ref (He.ga K "InvalidEdit"))))
abbrev c63 : Qy := qy (fun K => PySem.W.nsIn K mainGlobals "InvalidLimit") (fun K => some (some (.ref (He.ga K "InvalidLimit"))))
abbrev c64 : Qy := qy (fun K => PySem.W.nsIn K mainGlobals "Mismatch") (fun K => some (some (.ref (He.ga K "Mismatch"))))
abbrev c65 : Qy := qy (fun K => PySem.W.nsIn K mainGlobals "InvalidRow") (fun K => some (some (.ref (He.ga K "InvalidRow"))))
abbrev c66 : Qy := qy (fun K => PySem.W.findIn K (.ref (He.ga K "TooLong")) "__getattribute__") (fun K => some (some (.builtin "BaseException.__getattribute__")))
abbrev c67 : Qy := qy (fun K => PySem.W.findIn K (.ref (He.ga K "TooLong")) "__getattr__") (fun K => some none)
abbrev c68 : Qy := qy (fun K => PySem.W.subIn K (.ref (He.ga K "TooLong")) (.type "BaseException")) (fun K => some true)
abbrev c69 : Qy := qb (fun K => PySem.W.hasDictIn K (He.ga K "TooLong"))
abbrev c70 : Qy := qy (fun K => PySem.W.findIn K (.ref (He.ga K "TooLong")) "tag") (fun K => some none)
abbrev c71 : Qy := qy (fun K => PySem.W.findIn K (.ref (He.ga K "TooLong")) "most") (fun K => some none)
abbrev c72 : Qy := qy (fun K => PySem.W.exmAny K (.ref (He.ga K "TooLong")) [.ref (He.ga K "InvalidRow"), .ref (He.ga K "Mismatch"), .ref (He.ga K "InvalidLimit")]) (fun K => some false)
abbrev c73 : Qy := qy (fun K => PySem.W.exmAny K (.ref (He.ga K "TooLong")) [.ref (He.ga K "InvalidEdit"), .ref (He.ga K "Conflict"), .ref (He.ga K "ParseError")]) (fun K => some false)
abbrev c74 : Qy := qy (fun K => PySem.W.exmAny K (.ref (He.ga K "TooLong")) [.ref (He.ga K "TooLong"), .ref (He.ga K "CapacityExceeded")]) (fun K => some true)
abbrev c75 : Qy := qy (fun K => PySem.W.findIn K (.ref (He.ga K "InvalidEdit")) "__getattribute__") (fun K => some (some (.builtin "BaseException.__getattribute__")))
abbrev c76 : Qy := qy (fun K => PySem.W.findIn K (.ref (He.ga K "InvalidEdit")) "__getattr__") (fun K => some none)
abbrev c77 : Qy := qy (fun K => PySem.W.subIn K (.ref (He.ga K "InvalidEdit")) (.type "BaseException")) (fun K => some true)
abbrev c78 : Qy := qb (fun K => PySem.W.hasDictIn K (He.ga K "InvalidEdit"))
abbrev c79 : Qy := qy (fun K => PySem.W.findIn K (.ref (He.ga K "InvalidEdit")) "tag") (fun K => some none)
abbrev c80 : Qy := qy (fun K => PySem.W.findIn K (.ref (He.ga K "InvalidEdit")) "at") (fun K => some none)
abbrev c81 : Qy := qy (fun K => PySem.W.exmAny K (.ref (He.ga K "InvalidEdit")) [.ref (He.ga K "InvalidRow"), .ref (He.ga K "Mismatch"), .ref (He.ga K "InvalidLimit")]) (fun K => some false)
abbrev c82 : Qy := qy (fun K => PySem.W.exmAny K (.ref (He.ga K "InvalidEdit")) [.ref (He.ga K "InvalidEdit"), .ref (He.ga K "Conflict"), .ref (He.ga K "ParseError")]) (fun K => some true)
abbrev c83 : Qy := qy (fun K => PySem.W.nsIn K mainGlobals "_law_refused") (fun K => some (some (.ref (He.ga K "_law_refused"))))
abbrev c84 : Qy := qb (fun K => PySem.W.makesIn K (He.ga K "Script"))
abbrev c85 : Qy := qy (fun K => PySem.W.findIn K (.ref (He.ga K "Script")) "__init__") (fun K => some (some (.ref (He.ma K (He.ga K "Script") "__init__"))))
abbrev c86 : Qy := qb (fun K => PySem.W.isFn K (.ref (He.ma K (He.ga K "Script") "__init__")))
abbrev c87 : Qy := qb (fun K => PySem.W.keepIn K (.ref (He.ga K "Script")))
abbrev c88 : Qy := qb (fun K => isVal K (He.ga K "Script") "MOST" 4)
abbrev c89 : Qy := qb (fun K => PySem.W.readsIn K (He.ga K "Script") (.type "type"))
abbrev c90 : Qy := qy (fun K => PySem.W.specialIn K (.ref (He.ga K "Script")) "__getattribute__") (fun K => some (some (.builtin "type.__getattribute__")))
abbrev c91 : Qy := qb (fun K => PySem.W.plainGet K (He.ga K "Merge") Str.empty)
abbrev c92 : Qy := qb (fun K => PySem.W.hasDictIn K (He.ga K "Merge"))
abbrev c93 : Qy := qb (fun K => PySem.W.plainOver K (He.ga K "Merge"))
abbrev c94 : Qy := qy (fun K => PySem.W.findIn K (.ref (He.ga K "Merge")) "__setattr__") (fun K => some (some (.builtin "object.__setattr__")))
abbrev c95 : Qy := qy (fun K => PySem.W.findIn K (.ref (He.ga K "Merge")) "first") (fun K => some none)
abbrev c96 : Qy := qy (fun K => PySem.W.findIn K (.ref (He.ga K "Merge")) "second") (fun K => some none)
abbrev c97 : Qy := qy (fun K => PySem.W.findIn K (.ref (He.ga K "Script")) "kept") (fun K => some none)
abbrev c98 : Qy := qy (fun K => PySem.W.kitOne K (.ref (He.ga K "Merge")) (.ref (He.ga K "Script"))) (fun K => some false)
abbrev c99 : Qy := qy (fun K => PySem.W.findIn K (.ref (He.ga K "Merge")) "__class__") (fun K => some (some (.builtin "object.__class__")))
abbrev c100 : Qy := qy (fun K => PySem.W.specialIn K (.builtin "object.__class__") "__get__") (fun K => some (some (.builtin "getset_descriptor.__get__")))
abbrev c101 : Qy := qy (fun K => PySem.W.takesIn K (.builtin "object.__class__")) (fun K => some true)
abbrev c102 : Qy := qy (fun K => PySem.W.mroIn K (He.ga K "Merge") (.type "object")) (fun K => some true)
abbrev c103 : Qy := qy (fun K => PySem.W.kitOne K (.ref (He.ga K "Script")) (.ref (He.ga K "Script"))) (fun K => some true)
abbrev c104 : Qy := qy (fun K => PySem.W.findIn K (.ref (He.ga K "Script")) "__class__") (fun K => some (some (.builtin "object.__class__")))
abbrev c105 : Qy := qy (fun K => PySem.W.kitOne K (.type "NoneType") (.ref (He.ga K "Script"))) (fun K => some false)
abbrev c106 : Qy := qy (fun K => PySem.W.kitOne K (.type "bool") (.ref (He.ga K "Script"))) (fun K => some false)
abbrev c107 : Qy := qy (fun K => PySem.W.kitOne K (.type "int") (.ref (He.ga K "Script"))) (fun K => some false)
abbrev c108 : Qy := qy (fun K => PySem.W.kitOne K (.type "str") (.ref (He.ga K "Script"))) (fun K => some false)
abbrev c109 : Qy := qy (fun K => PySem.W.kitOne K (.type "list") (.ref (He.ga K "Script"))) (fun K => some false)
abbrev c110 : Qy := qy (fun K => PySem.W.kitOne K (.type "tuple") (.ref (He.ga K "Script"))) (fun K => some false)
abbrev c111 : Qy := qb (fun K => oexGB "ValueError.__new__" [.type "ValueError", .type "Exception", .type "BaseException", .type "object"] K (He.ga K "InvalidEdit"))
abbrev c112 : Qy := qy (fun K => PySem.W.findIn K (.ref (He.ga K "InvalidEdit")) "__setattr__") (fun K => some (some (.builtin "object.__setattr__")))
abbrev c113 : Qy := qy (fun K => PySem.W.typeIn K (.ref (He.ga K "InvalidEdit"))) (fun K => some (.type "type"))
abbrev c114 : Qy := qb (fun K => PySem.W.keepIn K (.ref (He.ga K "InvalidEdit")))
abbrev c115 : Qy := qy (fun K => PySem.W.findIn K (.ref (He.ga K "InvalidEdit")) "__init__") (fun K => some (some (.ref (He.ma K (He.ga K "InvalidEdit") "__init__"))))
abbrev c116 : Qy := qy (fun K => PySem.W.typeIn K (.ref (He.ma K (He.ga K "InvalidEdit") "__init__"))) (fun K => some (.type "function"))
abbrev c117 : Qy := qb (fun K => oexGB "ValueError.__new__" [.type "ValueError", .type "Exception", .type "BaseException", .type "object"] K (He.ga K "TooLong"))
abbrev c118 : Qy := qy (fun K => PySem.W.findIn K (.ref (He.ga K "TooLong")) "__setattr__") (fun K => some (some (.builtin "object.__setattr__")))
abbrev c119 : Qy := qy (fun K => PySem.W.typeIn K (.ref (He.ga K "TooLong"))) (fun K => some (.type "type"))
abbrev c120 : Qy := qb (fun K => PySem.W.keepIn K (.ref (He.ga K "TooLong")))
abbrev c121 : Qy := qy (fun K => PySem.W.findIn K (.ref (He.ga K "TooLong")) "__init__") (fun K => some (some (.ref (He.ma K (He.ga K "TooLong") "__init__"))))
abbrev c122 : Qy := qy (fun K => PySem.W.typeIn K (.ref (He.ma K (He.ga K "TooLong") "__init__"))) (fun K => some (.type "function"))
abbrev c123 : Qy := qy (fun K => PySem.W.findIn K (.ref (He.ga K "Script")) "__add__") (fun K => some (some (.ref (He.ma K (He.ga K "Script") "__add__"))))
abbrev c124 : Qy := qb (fun K => PySem.W.isFn K (.ref (He.ma K (He.ga K "Script") "__add__")))
abbrev c125 : Qy := qy (fun K => PySem.W.nsIn K mainGlobals "_law_open") (fun K => some (some (.ref (He.ga K "_law_open"))))
abbrev c126 : Qy := qy (fun K => PySem.W.nsIn K mainGlobals "is_symbol") (fun K => some (some (.ref (He.ga K "is_symbol"))))
abbrev c127 : Qy := qy (fun K => PySem.W.nsIn K mainGlobals "is_place") (fun K => some (some (.ref (He.ga K "is_place"))))
abbrev c128 : Qy := qy (fun K => PySem.W.nsIn K mainGlobals "is_edit") (fun K => some (some (.ref (He.ga K "is_edit"))))
abbrev c129 : Qy := qy (fun K => PySem.W.nsIn K mainGlobals "_law_draw") (fun K => some (some (.ref (He.ga K "_law_draw"))))
abbrev c130 : Qy := qy (fun K => PySem.W.nsIn K mainGlobals "_law_any") (fun K => some (some (.ref (He.ga K "_law_any"))))
abbrev c131 : Qy := qy (fun K => PySem.W.nsIn K mainGlobals "_law_place") (fun K => some (some (.ref (He.ga K "_law_place"))))
abbrev c132 : Qy := qy (fun K => PySem.W.nsIn K mainGlobals "_law_edit") (fun K => some (some (.ref (He.ga K "_law_edit"))))
abbrev c133 : Qy := qy (fun K => PySem.W.nsIn K mainGlobals "_law_edits") (fun K => some (some (.ref (He.ga K "_law_edits"))))
abbrev c134 : Qy := qy (fun K => PySem.W.nsIn K mainGlobals "_law_whole") (fun K => some (some (.ref (He.ga K "_law_whole"))))
abbrev c135 : Qy := qy (fun K => PySem.W.nsIn K mainGlobals "_law_same") (fun K => some (some (.ref (He.ga K "_law_same"))))
abbrev c136 : Qy := qy (fun K => PySem.W.nsIn K mainGlobals "_law_script") (fun K => some (some (.ref (He.ga K "_law_script"))))
abbrev c137 : Qy := qy (fun K => PySem.W.nsIn K mainGlobals "law") (fun K => some (some (.ref (He.ga K "law"))))
abbrev a0 : FnA := ⟨fun K => (He.ma K (He.ga K "Script") "__repr__"), "__repr__", "Script.__repr__", s_Script___repr__, [], false⟩
abbrev a1 : FnA := ⟨fun K => (He.ma K (He.ga K "Script") "__len__"), "__len__", "Script.__len__", s_Script___len__, [], false⟩
abbrev a2 : FnA := ⟨fun K => (He.ma K (He.ga K "Script") "edits"), "edits", "Script.edits", s_Script_edits, [], false⟩
abbrev a3 : FnA := ⟨fun K => (He.ma K (He.ga K "Script") "__contains__"), "__contains__", "Script.__contains__", s_Script___contains__, [], false⟩
abbrev a4 : FnA := ⟨fun K => (He.ma K (He.ga K "Script") "__eq__"), "__eq__", "Script.__eq__", s_Script___eq__, [], false⟩
abbrev a5 : FnA := ⟨fun K => (He.ma K (He.ga K "Merge") "__init__"), "__init__", "Merge.__init__", s_Merge___init__, [], false⟩
abbrev a6 : FnA := ⟨fun K => (He.ga K "_law_refused"), "_law_refused", "_law_refused", s_L_refused, [], false⟩
abbrev a7 : FnA := ⟨fun K => (He.ma K (He.ga K "Script") "__init__"), "__init__", "Script.__init__", s_Script___init__, [], false⟩
abbrev a8 : FnA := ⟨fun K => (He.ma K (He.ga K "InvalidEdit") "__init__"), "__init__", "InvalidEdit.__init__", s_InvalidEdit___init__, [], false⟩
abbrev a9 : FnA := ⟨fun K => (He.ma K (He.ga K "TooLong") "__init__"), "__init__", "TooLong.__init__", s_TooLong___init__, [], false⟩
abbrev a10 : FnA := ⟨fun K => (He.ma K (He.ga K "Script") "__add__"), "__add__", "Script.__add__", s_Script___add__, [], false⟩
abbrev a11 : FnA := ⟨fun K => (He.ga K "_law_open"), "_law_open", "_law_open", s_L_open, [], false⟩
abbrev a12 : FnA := ⟨fun K => (He.ga K "is_symbol"), "is_symbol", "is_symbol", s_is_symbol, [], false⟩
abbrev a13 : FnA := ⟨fun K => (He.ga K "is_place"), "is_place", "is_place", s_is_place, [], false⟩
abbrev a14 : FnA := ⟨fun K => (He.ga K "is_edit"), "is_edit", "is_edit", s_is_edit, [], false⟩
abbrev a15 : FnA := ⟨fun K => (He.ga K "_law_draw"), "_law_draw", "_law_draw", s_L_draw, [], false⟩
abbrev a16 : FnA := ⟨fun K => (He.ga K "_law_any"), "_law_any", "_law_any", s_L_any, [], false⟩
abbrev a17 : FnA := ⟨fun K => (He.ga K "_law_place"), "_law_place", "_law_place", s_L_place, [], false⟩
abbrev a18 : FnA := ⟨fun K => (He.ga K "_law_edit"), "_law_edit", "_law_edit", s_L_edit, [], false⟩
abbrev a19 : FnA := ⟨fun K => (He.ga K "_law_edits"), "_law_edits", "_law_edits", s_L_edits, [], false⟩
abbrev a20 : FnA := ⟨fun K => (He.ga K "_law_whole"), "_law_whole", "_law_whole", s_L_whole, [], false⟩
abbrev a21 : FnA := ⟨fun K => (He.ga K "_law_same"), "_law_same", "_law_same", s_L_same, [], false⟩
abbrev a22 : FnA := ⟨fun K => (He.ga K "_law_script"), "_law_script", "_law_script", s_L_script, [], false⟩
abbrev a23 : FnA := ⟨fun K => (He.ga K "law"), "law", "law", s_law, [], false⟩
def tell : Tell := ⟨[a0, a1, a2, a3, a4, a5, a6, a7, a8, a9, a10, a11, a12, a13, a14, a15, a16, a17, a18, a19, a20, a21, a22, a23], [], ["law"], [c0, c1, c2, c3, c4, c5, c6, c7, c8, c9, c10, c11, c12, c13, c14, c15, c16, c17, c18, c19, c20, c21, c22, c23, c24, c25, c26, c27, c28, c29, c30, c31, c32, c33, c34, c35, c36, c37, c38, c39, c40, c41, c42, c43, c44, c45, c46, c47, c48, c49, c50, c51, c52, c53, c54, c55, c56, c57, c58, c59, c60, c61, c62, c63, c64, c65, c66, c67, c68, c69, c70, c71, c72, c73, c74, c75, c76, c77, c78, c79, c80, c81, c82, c83, c84, c85, c86, c87, c88, c89, c90, c91, c92, c93, c94, c95, c96, c97, c98, c99, c100, c101, c102, c103, c104, c105, c106, c107, c108, c109, c110, c111, c112, c113, c114, c115, c116, c117, c118, c119, c120, c121, c122, c123, c124, c125, c126, c127, c128, c129, c130, c131, c132, c133, c134, c135, c136, c137]⟩
def loose : List Str := (["_wall", "PlaceError", "Missing", "InvalidRow", "InvalidEdit", "TooLong", "Mismatch", "Conflict", "Conflicting", "Different", "Carried", "InvalidName", "DuplicateName", "CapacityExceeded", "InvalidLimit", "Untraced", "NoCarry", "OrderMatters", "InvalidCommand", "ParseError", "UnknownName", "UnknownVersion", "NothingLeft", "SYMBOLS", "is_row", "locate", "ENDS", "NUMBERS", "OTHERS", "MIRRORS"] : List Str) ++ (["is_symbol", "is_place", "is_edit", "places", "shelf", "mirrored", "format_edit", "parse_edit", "written", "merged_piece", "Trace", "changed_piece", "edit_trace", "joined", "Change", "Script", "Merge", "_law_open", "_law_draw", "_law_any", "_law_whole", "_law_same", "_law_refused", "_law_place", "_law_edit", "_law_edits", "_law_script"] : List Str)
abbrev hk : PySem.W.Hook := hookY 6 tell
abbrev runP (w : World) : Prop := HandSHeadRun.RunEq (PySem.W.OpenLaw.row PySem.Challenge.rw_countedplace_k11_scripts_made) (PySem.W.view (PySem.W.OpenLaw.row PySem.Challenge.rw_countedplace_k11_scripts_made).prog [63]) hk (obY 6 tell) 20000 loose w
theorem runL0 (w : World) : RunL (PySem.W.OpenLaw.row PySem.Challenge.rw_countedplace_k11_scripts_made) (PySem.W.view (PySem.W.OpenLaw.row PySem.Challenge.rw_countedplace_k11_scripts_made).prog [63]) 20000 loose (w.withFollow "special-get-raises" false) := fun os => by kernel_rfl
theorem runA0 (w : World) : RunO (PySem.W.OpenLaw.row PySem.Challenge.rw_countedplace_k11_scripts_made) (hookY 6 tell.a) (obY 6 tell.a) 20000 (w.withFollow "special-get-raises" false) := fun os => by kernel_rfl
theorem runB0 (w : World) : RunO (PySem.W.OpenLaw.row PySem.Challenge.rw_countedplace_k11_scripts_made) (hookY 6 tell.b) (obY 6 tell.b) 20000 (w.withFollow "special-get-raises" false) := fun os => by kernel_rfl
theorem run0 (w : World) : runP (w.withFollow "special-get-raises" false) := runEq_of (runL0 w) (runO_of (runA0 w) (runB0 w))
theorem runL1 (w : World) : RunL (PySem.W.OpenLaw.row PySem.Challenge.rw_countedplace_k11_scripts_made) (PySem.W.view (PySem.W.OpenLaw.row PySem.Challenge.rw_countedplace_k11_scripts_made).prog [63]) 20000 loose (w.withFollow "special-get-raises" true) := fun os => by kernel_rfl
theorem runA1 (w : World) : RunO (PySem.W.OpenLaw.row PySem.Challenge.rw_countedplace_k11_scripts_made) (hookY 6 tell.a) (obY 6 tell.a) 20000 (w.withFollow "special-get-raises" true) := fun os => by kernel_rfl
theorem runB1 (w : World) : RunO (PySem.W.OpenLaw.row PySem.Challenge.rw_countedplace_k11_scripts_made) (hookY 6 tell.b) (obY 6 tell.b) 20000 (w.withFollow "special-get-raises" true) := fun os => by kernel_rfl
theorem run1 (w : World) : runP (w.withFollow "special-get-raises" true) := runEq_of (runL1 w) (runO_of (runA1 w) (runB1 w))
theorem run : ∀ w : World, runP w := PySem.W.byRow2 "special-get-raises" run0 run1
end Z
namespace Y
open PySem PySem.Spec PyProof.Rows L2

/-! ### data, and how a value stands for it -/
inductive D where
  | non | bl (b : Bool) | int (i : Int) | str (s : Str) | lst (ds : List D) | tup (ds : List D) | box | obj (c : Str) (fs : List (Str × D)) | dct (kvs : List (Key × D)) | cel (i : Nat)
  deriving Inhabited
/-- the classes by name, the tables of code objects -/
structure CT where
  cl : Str → Option Addr
  tb : List (Addr × Str)
instance : CoeFun CT (fun _ => Str → Option Addr) := ⟨CT.cl⟩
/-- what is frozen, and where the cells lie -/
structure FH where
  fz : Hp
  ad : Nat → Option Addr
instance : CoeFun FH (fun _ => Addr → Option HO) := ⟨FH.fz⟩
instance : Coe FH Hp := ⟨FH.fz⟩
abbrev FH.upd (F : FH) (p : Addr) (o : HO) : FH := ⟨L2.upd F.fz p o, F.ad⟩
/-- neither frozen nor a cell -/
def FH.free (F : FH) (p : Addr) : Prop := F.fz p = none ∧ ∀ i, F.ad i ≠ some p
theorem FH.free.upd {F : FH} {p q : Addr} {o : HO} (h : F.free p) (n : p ≠ q) : (F.upd q o).free p := ⟨by show L2.upd F.fz q o p = none; rw [upd_ne n]; exact h.1, h.2⟩
structure FSame (F F' : FH) : Prop where
  fz : Same F.fz F'.fz
  ad : ∀ i a, F.ad i = some a → F'.ad i = some a
theorem FSame.refl (F : FH) : FSame F F := ⟨Same.refl _, fun _ _ h => h⟩
theorem FSame.trans {F F' F'' : FH} (a : FSame F F') (b : FSame F' F'') : FSame F F'' := ⟨a.fz.trans b.fz, fun i x h => b.ad i x (a.ad i x h)⟩
theorem FSame.upd {F : FH} {p : Addr} {o : HO} (n : F.fz p = none) : FSame F (F.upd p o) := ⟨fun a u h => by show L2.upd F.fz p o a = some u; rw [upd_ne (ne_of_none h n)]; exact h, fun _ _ h => h⟩
/-- the box; the object that an __init__ makes, its own dict; the cells of the frame that makes lambdas -/
abbrev BQ : Type := Addr × Addr × Addr × List (Str × Addr)
structure G where
  K : PySem.W.Frag
  cls : CT
  bq : BQ
/-- the box that is drawn from -/
abbrev G.bx (g : G) : Addr := g.bq.1
/-- the object that an __init__ makes, and its own dict -/
abbrev G.me (g : G) : Addr := g.bq.2.1
abbrev G.md (g : G) : Addr := g.bq.2.2.1
abbrev G.cl (g : G) : List (Str × Addr) := g.bq.2.2.2
mutual
inductive DR (g : G) (F : FH) : V → D → Prop
  | non : DR g F .non .non
  | bl (b : Bool) : DR g F (.bl b) (.bl b)
  | int (i : Int) : DR g F (.int i) (.int i)
  | str (s : Str) : DR g F (.str s) (.str s)
  | lst {a : Addr} {xs : List V} {ds : List D} : F a = some (.lst xs) → DRs g F xs ds → DR g F (.ref a) (.lst ds)
  | tup {a : Addr} {xs : List V} {ds : List D} : SqT g.K F a xs → DRs g F xs ds → DR g F (.ref a) (.tup ds)
  | box : DR g F (.ref g.bx) .box
  | obj {a C dx : Addr} {c : Str} {fs : List (Str × V)} {ds : List (Str × D)} : F a = some (.ins C dx fs) → F dx = some (.own a) → g.cls c = some C → DRf g F fs ds → DR g F (.ref a) (.obj c ds)
  | cel {i : Nat} {a : Addr} : F.ad i = some a → DR g F (.ref a) (.cel i)
  | dct {a : Addr} {xs : List (Key × V)} {ds : List (Key × D)} : F a = some (.dK xs) → DRk g F xs ds → DR g F (.ref a) (.dct ds)
inductive DRs (g : G) (F : FH) : List V → List D → Prop
  | nil : DRs g F [] []
  | cons {v : V} {vs : List V} {d : D} {ds : List D} : DR g F v d → DRs g F vs ds → DRs g F (v :: vs) (d :: ds)
inductive DRf (g : G) (F : FH) : List (Str × V) → List (Str × D) → Prop
  | nil : DRf g F [] []
  | cons {n : Str} {v : V} {vs : List (Str × V)} {d : D} {ds : List (Str × D)} : DR g F v d → DRf g F vs ds → DRf g F ((n, v) :: vs) ((n, d) :: ds)
inductive DRk (g : G) (F : FH) : List (Key × V) → List (Key × D) → Prop
  | nil : DRk g F [] []
  | cons {n : Key} {v : V} {vs : List (Key × V)} {d : D} {ds : List (Key × D)} : DR g F v d → DRk g F vs ds → DRk g F ((n, v) :: vs) ((n, d) :: ds)
end
theorem same_T {K : PySem.W.Frag} {H H' : Hp} {a : Addr} {xs : List V} (e : Same H H') (h : SqT K H a xs) : SqT K H' a xs := by
  rcases h with (h | ⟨o, h⟩) | h
  · exact .inl (.inl (e _ _ h))
  · exact .inl (.inr ⟨o, e _ _ h⟩)
  · exact .inr h
mutual
theorem DR.mono {g : G} {F F' : FH} (e : FSame F F') : ∀ {v : V} {d : D}, DR g F v d → DR g F' v d
  | _, _, .non => .non
  | _, _, .bl b => .bl b
  | _, _, .int i => .int i
  | _, _, .str s => .str s
  | _, _, .lst h r => .lst (e.fz _ _ h) (DRs.mono e r)
  | _, _, .tup h r => .tup (same_T e.fz h) (DRs.mono e r)
  | _, _, .box => .box
  | _, _, .cel h => .cel (e.ad _ _ h)
  | _, _, .obj h h2 h3 r => .obj (e.fz _ _ h) (e.fz _ _ h2) h3 (DRf.mono e r)
  | _, _, .dct h r => .dct (e.fz _ _ h) (DRk.mono e r)
theorem DRs.mono {g : G} {F F' : FH} (e : FSame F F') : ∀ {v : List V} {d : List D}, DRs g F v d → DRs g F' v d
  | _, _, .nil => .nil
  | _, _, .cons h r => .cons (DR.mono e h) (DRs.mono e r)
theorem DRf.mono {g : G} {F F' : FH} (e : FSame F F') : ∀ {v : List (Str × V)} {d : List (Str × D)}, DRf g F v d → DRf g F' v d
  | _, _, .nil => .nil
  | _, _, .cons h r => .cons (DR.mono e h) (DRf.mono e r)
theorem DRk.mono {g : G} {F F' : FH} (e : FSame F F') : ∀ {v : List (Key × V)} {d : List (Key × D)}, DRk g F v d → DRk g F' v d
  | _, _, .nil => .nil
  | _, _, .cons h r => .cons (DR.mono e h) (DRk.mono e r)
end
section
variable {g : G} {F F' : FH} {H H' : Hp}
theorem DRs.length : ∀ {v : List V} {d : List D}, DRs g F v d → v.length = d.length
  | _, _, .nil => rfl
  | _, _, .cons _ r => congrArg (· + 1) r.length
theorem DRs.get : ∀ {vs : List V} {ds : List D} {i : Nat} {d : D}, DRs g F vs ds → ds[i]? = some d → ∃ v, vs[i]? = some v ∧ DR g F v d
  | _, _, _, _, .nil, e => by simp at e
  | _, _, 0, _, .cons r _, e => by simp at e; subst e; exact ⟨_, rfl, r⟩
  | _, _, i + 1, x, .cons _ t, e => by
    obtain ⟨u, h1, h2⟩ := DRs.get (i := i) (d := x) t (by simpa using e)
    exact ⟨u, by simpa using h1, h2⟩
theorem DRs.append : ∀ {v v' : List V} {d d' : List D}, DRs g F v d → DRs g F v' d' → DRs g F (v ++ v') (d ++ d')
  | _, _, _, _, .nil, s => s
  | _, _, _, _, .cons r t, s => .cons r (DRs.append t s)
theorem DRs.take : ∀ {v : List V} {d : List D} (n : Nat), DRs g F v d → DRs g F (v.take n) (d.take n)
  | _, _, 0, _ => .nil
  | _, _, _ + 1, .nil => .nil
  | _, _, n + 1, .cons r t => .cons r (DRs.take n t)
theorem DRs.drop : ∀ {v : List V} {d : List D} (n : Nat), DRs g F v d → DRs g F (v.drop n) (d.drop n)
  | _, _, 0, r => r
  | _, _, _ + 1, .nil => .nil
  | _, _, n + 1, .cons _ t => DRs.drop n t
theorem DRs.set {x : V} {u : D} (r : DR g F x u) : ∀ {xs : List V} {us : List D} (i : Nat), DRs g F xs us → DRs g F (xs.set i x) (us.set i u)
  | _, _, _, .nil => .nil
  | _, _, 0, .cons _ t => .cons r t
  | _, _, i + 1, .cons q t => .cons q (DRs.set r i t)
theorem DRf.lookup {f : Str} : ∀ {vs : List (Str × V)} {ds : List (Str × D)} {d : D}, DRf g F vs ds → ds.lookup f = some d → ∃ v, vs.lookup f = some v ∧ DR g F v d
  | _, _, _, .nil, e => by simp at e
  | _, _, d, .cons (n := n) r t, e => by
    rw [List.lookup_cons] at e ⊢
    cases q : f == n with
    | true => rw [q] at e; simp only at e; cases e; exact ⟨_, rfl, r⟩
    | false => rw [q] at e; simp only at e; exact DRf.lookup t e
theorem DRf.lookup_none {f : Str} : ∀ {vs : List (Str × V)} {ds : List (Str × D)}, DRf g F vs ds → ds.lookup f = none → vs.lookup f = none
  | _, _, .nil, _ => rfl
  | _, _, .cons (n := n) r t, e => by
    rw [List.lookup_cons] at e ⊢
    cases q : f == n with
    | true => rw [q] at e; simp only at e; cases e
    | false => rw [q] at e; simp only at e; exact DRf.lookup_none t e
end

/-! ### the box that the law draws from, and the cells -/
/-- what may change: a list, a dict, an object -/
inductive Cell where
  | lst (ds : List D) | dct (kvs : List (Key × D)) | obj (c : Str) (fs : List (Str × D)) | lck (kvs : List (Key × D))
structure Bx where
  cells : List Int
  ix : Nat
  big : Int
  mark : Int
  st : List Cell := []
def CellOk (g : G) (F : FH) (H : Hp) (a : Addr) : Cell → Prop
  | .lst ds => ∃ vs, H a = some (.lst vs) ∧ DRs g F vs ds
  | .dct kvs => ∃ xs, H a = some (.dK xs) ∧ DRk g F xs kvs
  | .obj c fs => ∃ C dx vs, H a = some (.ins C dx vs) ∧ H dx = some (.own a) ∧ g.cls c = some C ∧ DRf g F vs fs
  | .lck kvs => ∃ xs od, H a = some (.frz od (.dK xs)) ∧ DRk g F xs kvs
theorem CellOk.at_ {g : G} {F : FH} {H : Hp} {a : Addr} {c : Cell} (h : CellOk g F H a c) : H a ≠ none := by
  cases c with
  | lst ds => obtain ⟨_, e, _⟩ := h; rw [e]; simp
  | dct ds => obtain ⟨_, e, _⟩ := h; rw [e]; simp
  | obj c ds => obtain ⟨_, _, _, e, _⟩ := h; rw [e]; simp
  | lck ds => obtain ⟨_, _, e, _⟩ := h; rw [e]; simp
/-- a cell is kept while it is not changed itself -/
theorem CellOk.keep {g : G} {F F' : FH} {H H' : Hp} {a : Addr} {c : Cell} (h : CellOk g F H a c) (e : FSame F F') (ka : H' a = H a) (ko : ∀ b x, H b = some (.own x) → H' b = some (.own x)) : CellOk g F' H' a c := by
  cases c with
  | lst ds => obtain ⟨vs, e1, r⟩ := h; exact ⟨vs, ka.trans e1, r.mono e⟩
  | dct ds => obtain ⟨vs, e1, r⟩ := h; exact ⟨vs, ka.trans e1, r.mono e⟩
  | obj c ds => obtain ⟨C, dx, vs, e1, e2, e3, r⟩ := h; exact ⟨C, dx, vs, ka.trans e1, ko _ _ e2, e3, r.mono e⟩
  | lck ds => obtain ⟨vs, od, e1, r⟩ := h; exact ⟨vs, od, ka.trans e1, r.mono e⟩
structure BxOk (g : G) (F : FH) (w : Bx) (H : Hp) : Prop where
  at_ : ∃ c, H g.bx = some (.lst [.ref c, .int (w.ix : Int), .int w.big, .int w.mark]) ∧ F c = some (.lst (w.cells.map V.int))
  no : F g.bx = none
  big0 : 0 ≤ w.big
  mk0 : 0 ≤ w.mark
  mk1 : w.mark < 2147483647
  nc : w.cells.length ≤ 63
  cel : ∀ i c, w.st[i]? = some c → ∃ a, F.ad i = some a ∧ F.fz a = none ∧ a ≠ g.bx ∧ CellOk g F H a c
  adl : ∀ i a, F.ad i = some a → i < w.st.length
  inj : ∀ i j a, F.ad i = some a → F.ad j = some a → i = j
  tabs : LamX.Tabs g.cls.tb H
  ntb : ∀ a ps, F.fz a ≠ some (.tbl ps)
theorem BxOk.nocell {g : G} {F : FH} {w : Bx} {H : Hp} (b : BxOk g F w H) {i : Nat} {a : Addr} (h : F.ad i = some a) : F.fz a = none ∧ a ≠ g.bx ∧ H a ≠ none := by
  have hl := b.adl i a h
  obtain ⟨a', e1, e2, e3, e4⟩ := b.cel i _ (List.getElem?_eq_getElem hl)
  rw [h] at e1; cases e1
  exact ⟨e2, e3, e4.at_⟩
/-! ### how the heap may turn while an expression is evaluated -/
structure Ext (g : G) (F : FH) (H : Hp) (F' : FH) (H' : Hp) (w : Bx) : Prop where
  ff : FSame F F'
  hh : ∀ a o, a ≠ g.bx → (∀ i, F.ad i ≠ some a) → (∀ ps, o ≠ .tbl ps) → H a = some o → H' a = some o
  dom : ∀ a, H' a = none → H a = none
  new : ∀ a o, F' a = some o → F a = some o ∨ H a = none
  nad : ∀ i a, F'.ad i = some a → F.ad i = some a ∨ H a = none
  sub : Same F' H'
  bx : BxOk g F' w H'
  frz : ∀ a od u, H a = some (.frz od u) → H' a = some (.frz od u)
theorem Tabs.keep {T : List (Addr × Str)} {H H' : Hp} (t : LamX.Tabs T H) (k : ∀ a o, (∀ vs, o ≠ .lst vs) → (∀ vs, o ≠ .dK vs) → (∀ C d vs, o ≠ .ins C d vs) → H a = some o → H' a = some o) : LamX.Tabs T H' := fun p hp => by
  obtain ⟨ps, h1, h2, h3⟩ := t p hp
  refine ⟨ps, k _ _ (fun _ z => by cases z) (fun _ z => by cases z) (fun _ _ _ z => by cases z) h1, h2, fun pos cv hc => ?_⟩
  obtain ⟨c, e1, e2⟩ := h3 pos cv hc
  exact ⟨c, e1, k _ _ (fun _ z => by unfold LamX.CodeO at z; cases z) (fun _ z => by unfold LamX.CodeO at z; cases z) (fun _ _ _ z => by unfold LamX.CodeO at z; cases z) e2⟩
/-- more is frozen -/
theorem BxOk.mono {g : G} {F F' : FH} {H : Hp} {w : Bx} (b : BxOk g F w H) (e : FSame F F') (ea : F'.ad = F.ad) (n : F' g.bx = none) (nc : ∀ i a, F.ad i = some a → F'.fz a = none) (nt : ∀ a ps, F'.fz a ≠ some (.tbl ps)) : BxOk g F' w H where
  at_ := let ⟨c, h1, h2⟩ := b.at_; ⟨c, h1, e.fz _ _ h2⟩
  no := n
  big0 := b.big0
  mk0 := b.mk0
  mk1 := b.mk1
  nc := b.nc
  cel := fun i c h => let ⟨a, h1, _, h3, h4⟩ := b.cel i c h; ⟨a, by rw [ea]; exact h1, nc i a h1, h3, h4.keep e rfl fun _ _ q => q⟩
  adl := by rw [ea]; exact b.adl
  inj := by rw [ea]; exact b.inj
  tabs := b.tabs
  ntb := nt
/-- the heap turns, away from the box and the cells -/
theorem BxOk.heap {g : G} {F : FH} {H H' : Hp} {w : Bx} (b : BxOk g F w H) (e : H' g.bx = H g.bx) (kc : ∀ i a, F.ad i = some a → H' a = H a) (ko : ∀ a o, (∀ vs, o ≠ .lst vs) → (∀ vs, o ≠ .dK vs) → (∀ C d vs, o ≠ .ins C d vs) → H a = some o → H' a = some o) : BxOk g F w H' where
  at_ := let ⟨c, h1, h2⟩ := b.at_; ⟨c, e.trans h1, h2⟩
  no := b.no
  big0 := b.big0
  mk0 := b.mk0
  mk1 := b.mk1
  nc := b.nc
  cel := fun i c h => let ⟨a, h1, h2, h3, h4⟩ := b.cel i c h; ⟨a, h1, h2, h3, h4.keep (FSame.refl F) (kc i a h1) fun x y q => ko x _ (fun _ z => by cases z) (fun _ z => by cases z) (fun _ _ _ z => by cases z) q⟩
  adl := b.adl
  inj := b.inj
  tabs := Tabs.keep b.tabs ko
  ntb := b.ntb
/-- all stays -/
theorem BxOk.grow {g : G} {F : FH} {H H' : Hp} {w : Bx} (b : BxOk g F w H) (k : ∀ a o, H a = some o → H' a = some o) : BxOk g F w H' := by
  refine b.heap ?_ (fun i a h => ?_) (fun a o _ _ _ h => k a o h)
  · obtain ⟨c, h1, _⟩ := b.at_; rw [h1]; exact k _ _ h1
  · cases q : H a with
    | none => exact absurd q (b.nocell h).2.2
    | some o => exact k _ _ q
section
variable {g : G} {F F1 F2 : FH} {H H1 H2 : Hp} {w w1 w2 : Bx}
theorem Ext.refl (s : Same F H) (b : BxOk g F w H) : Ext g F H F H w := ⟨FSame.refl F, fun _ _ _ _ _ h => h, fun _ h => h, fun _ _ h => .inl h, fun _ _ h => .inl h, s, b, fun _ _ _ h => h⟩
theorem Ext.fresh (a : Ext g F H F1 H1 w) {p : Addr} (n : H1 p = none) : H p = none := a.dom p n
theorem Ext.trans (a : Ext g F H F1 H1 w1) (b : Ext g F1 H1 F2 H2 w2) : Ext g F H F2 H2 w2 where
  ff := a.ff.trans b.ff
  hh := fun x o n nc nt h => b.hh x o n (fun i q => (a.nad i x q).elim (nc i) fun z => by rw [h] at z; cases z) nt (a.hh x o n nc nt h)
  dom := fun x h => a.dom x (b.dom x h)
  new := fun x o h => by
    rcases b.new x o h with h1 | h1
    · exact a.new x o h1
    · exact .inr (a.dom x h1)
  nad := fun i x h => by
    rcases b.nad i x h with h1 | h1
    · exact a.nad i x h1
    · exact .inr (a.dom x h1)
  sub := b.sub
  bx := b.bx
  frz := fun x od u h => b.frz x od u (a.frz x od u h)
theorem upd_dom {H : Hp} {p a : Addr} {o : HO} (h : upd H p o a = none) : H a = none := by
  by_cases e : a = p
  · rw [e, upd_same] at h; cases h
  · rw [upd_ne e] at h; exact h
/-- a new object is laid, and frozen -/
theorem Ext.lay {p : Addr} {o : HO} (s : Same F H) (b : BxOk g F w H) (np : H p = none) (ho : ∀ ps, o ≠ .tbl ps := by intro _ z; cases z) : Ext g F H (F.upd p o) (upd H p o) w := by
  have nF : F p = none := by
    cases q : F p with
    | none => rfl
    | some u => rw [s p u q] at np; cases np
  have nb : p ≠ g.bx := fun e => by
    obtain ⟨c, h, _⟩ := b.at_
    rw [e, h] at np; cases np
  have nc : ∀ i, F.ad i ≠ some p := fun i h => (b.nocell h).2.2 np
  have fs : FSame F (F.upd p o) := ⟨fun a u h => by show upd F.fz p o a = some u; rw [upd_ne (ne_of_none h nF)]; exact h, fun _ _ h => h⟩
  refine ⟨fs, fun a u _ _ _ h => ?_, fun a h => upd_dom h, fun a u h => ?_, fun _ _ h => .inl h, fun a u h => ?_, ?_, fun a od u h => by rw [upd_ne (ne_of_none h np)]; exact h⟩
  · rw [upd_ne (ne_of_none h np)]; exact h
  · by_cases e : a = p
    · exact .inr (e ▸ np)
    · have h : upd F.fz p o a = some u := h
      rw [upd_ne e] at h; exact .inl h
  · have h : upd F.fz p o a = some u := h
    by_cases e : a = p
    · rw [e, upd_same] at h ⊢; exact h
    · rw [upd_ne e] at h ⊢; exact s a u h
  · refine (b.mono fs rfl ?_ (fun i a h => ?_) fun a ps h => ?_).grow fun a u h => ?_
    · show upd F.fz p o g.bx = none
      rw [upd_ne nb.symm]; exact b.no
    · show upd F.fz p o a = none
      rw [upd_ne (show a ≠ p from fun z => nc i (z ▸ h))]; exact (b.nocell h).1
    · have h : upd F.fz p o a = some (.tbl ps) := h
      by_cases e : a = p
      · rw [e, upd_same] at h; cases h; exact ho ps rfl
      · rw [upd_ne e] at h; exact b.ntb a ps h
    · rw [upd_ne (ne_of_none h np)]; exact h
/-- a new object is laid, not frozen yet -/
theorem Ext.own {p : Addr} {o : HO} (s : Same F H) (b : BxOk g F w H) (np : H p = none) : Ext g F H F (upd H p o) w := by
  have k : ∀ a u, H a = some u → upd H p o a = some u := fun a u h => by rw [upd_ne (ne_of_none h np)]; exact h
  exact ⟨FSame.refl F, fun a u _ _ _ h => k a u h, fun a h => upd_dom h, fun _ _ h => .inl h, fun _ _ h => .inl h, fun a u h => k a u (s a u h), b.grow k, fun a od u h => k a _ h⟩
/-- an object that is not frozen is frozen -/
theorem Ext.freeze {p : Addr} {o : HO} (a : Ext g F H F1 H1 w) (np : H p = none) (n1 : F1.free p) (h1 : H1 p = some o) (nb : p ≠ g.bx) (ho : ∀ ps, o ≠ .tbl ps := by intro _ z; cases z) : Ext g F H (F1.upd p o) H1 w := by
  have fs : FSame F1 (F1.upd p o) := ⟨fun x u h => by show upd F1.fz p o x = some u; rw [upd_ne (ne_of_none h n1.1)]; exact h, fun _ _ h => h⟩
  refine ⟨a.ff.trans fs, a.hh, a.dom, fun x u h => ?_, a.nad, fun x u h => ?_, a.bx.mono fs rfl ?_ (fun i x h => ?_) fun x ps h => ?_, a.frz⟩
  · have h : upd F1.fz p o x = some u := h
    by_cases e : x = p
    · exact .inr (e ▸ np)
    · rw [upd_ne e] at h; exact a.new x u h
  · have h : upd F1.fz p o x = some u := h
    by_cases e : x = p
    · rw [e, upd_same] at h; rw [e, h1]; exact h
    · rw [upd_ne e] at h; exact a.sub x u h
  · show upd F1.fz p o g.bx = none
    rw [upd_ne nb.symm]; exact a.bx.no
  · show upd F1.fz p o x = none
    rw [upd_ne (show x ≠ p from fun z => n1.2 i (z ▸ h))]; exact (a.bx.nocell h).1
  · have h : upd F1.fz p o x = some (.tbl ps) := h
    by_cases e : x = p
    · rw [e, upd_same] at h; cases h; exact ho ps rfl
    · rw [upd_ne e] at h; exact a.bx.ntb x ps h
/-- what is not in the heap is free -/
theorem free_of (s : Same F H) (b : BxOk g F w H) {p : Addr} (n : H p = none) : F.free p := by
  refine ⟨?_, fun i h => (b.nocell h).2.2 n⟩
  cases q : F p with
  | none => rfl
  | some u => rw [s p u q] at n; cases n
/-- what was free and there stays free -/
theorem Ext.free (x : Ext g F H F1 H1 w) {p : Addr} {o : HO} (n : F.free p) (h : H p = some o) : F1.free p := by
  refine ⟨?_, fun i q => ?_⟩
  · cases q : F1.fz p with
    | none => rfl
    | some u =>
      rcases x.new p u q with z | z
      · rw [show F.fz p = none from n.1] at z; cases z
      · rw [h] at z; cases z
  · rcases x.nad i p q with z | z
    · exact n.2 i z
    · rw [h] at z; cases z
end

/-! ### results -/
inductive R (α : Type) where
  | ok (a : α) (w : Bx) | err (c : Str) (fs : List (Str × D)) (w : Bx) | bad
def R.bind {α β : Type} : R α → (α → Bx → R β) → R β
  | .ok a w, k => k a w
  | .err c fs w, _ => .err c fs w
  | .bad, _ => .bad
def R.ofO {α : Type} : Option α → Bx → R α
  | some a, w => .ok a w
  | none, _ => .bad
@[simp] theorem R.bind_ok {α β : Type} (a : α) (w : Bx) (k : α → Bx → R β) : (R.ok a w).bind k = k a w := rfl
@[simp] theorem R.bind_err {α β : Type} (c : Str) (fs : List (Str × D)) (w : Bx) (k : α → Bx → R β) : (R.err c fs w : R α).bind k = .err c fs w := rfl
@[simp] theorem R.bind_bad {α β : Type} (k : α → Bx → R β) : (R.bad : R α).bind k = .bad := rfl
@[simp] theorem R.ofO_some {α : Type} (a : α) (w : Bx) : R.ofO (some a) w = .ok a w := rfl
@[simp] theorem R.ofO_none {α : Type} (w : Bx) : (R.ofO none w : R α) = .bad := rfl

/-- what is wanted of an exception of the class c -/
def PErr (g : G) (F : FH) (H : Hp) (E : XK) (c : Str) (fs : List (Str × D)) (w : Bx) : Prop :=
  ∀ (cl a : Addr) (vs : List (Str × V)) (H' : Hp) (F' : FH), Ext g F H F' H' w → H a = none → g.cls c = some cl → H' a = some (.xd vs) → DRf g F' vs fs → E (.ref cl) (some a) H'
/-- the wish of a result: Qk of a good one -/
def PostG {α : Type} (g : G) (F : FH) (H : Hp) (E : XK) (Qk : α → Bx → Prop) : R α → Prop
  | .ok a w => Qk a w
  | .err c fs w => PErr g F H E c fs w
  | .bad => False
def Post (g : G) (F : FH) (H : Hp) (Q : VK) (E : XK) : R D → Prop := PostG g F H E fun d w => ∀ (v : V) (H' : Hp) (F' : FH), Ext g F H F' H' w → DR g F' v d → Q v H'
def PostA (g : G) (F : FH) (H : Hp) (Q : List V → Hp → Prop) (E : XK) : R (List D) → Prop := PostG g F H E fun ds w => ∀ (vs : List V) (H' : Hp) (F' : FH), Ext g F H F' H' w → DRs g F' vs ds → Q vs H'
def PostT (g : G) (F : FH) (H : Hp) (Q : Bool → Hp → Prop) (E : XK) : R Bool → Prop := PostG g F H E fun b w => ∀ (H' : Hp) (F' : FH), Ext g F H F' H' w → Q b H'
/-- a new list, not frozen -/
def PostO (g : G) (F : FH) (H : Hp) (Q : VK) (E : XK) : R (List D) → Prop := PostG g F H E fun ds w => ∀ (p : Addr) (vs : List V) (H' : Hp) (F' : FH), Ext g F H F' H' w → H p = none → F'.free p → H' p = some (.lst vs) → DRs g F' vs ds → Q (.ref p) H'
section
variable {g : G} {F F1 F2 : FH} {H H1 H2 : Hp} {w w1 w2 : Bx} {E : XK}
theorem PErr.of {c : Str} {fs : List (Str × D)} (a : Ext g F H F1 H1 w) (h : PErr g F H E c fs w2) : PErr g F1 H1 E c fs w2 :=
  fun cl x vs H' F' e n k l r => h cl x vs H' F' (a.trans e) (a.fresh n) k l r
/-- a step, then the rest -/
theorem PostG.bind {α β : Type} {r : R α} {k : α → Bx → R β} {Qk : β → Bx → Prop} (h : PostG g F H E Qk (r.bind k)) : PostG g F H E (fun a w => PostG g F H E Qk (k a w)) r := by
  cases r with
  | ok a w => exact h
  | err c fs w => exact h
  | bad => exact h
theorem PostG.imp {α : Type} {r : R α} {Q1 Q2 : α → Bx → Prop} (h : PostG g F H E Q1 r) (i : ∀ a w, r = .ok a w → Q1 a w → Q2 a w) : PostG g F H E Q2 r := by
  cases r with
  | ok a w => exact i a w rfl h
  | err c fs w => exact h
  | bad => exact h
/-- the wish as it is behind a step -/
theorem PostG.ext {α : Type} {r : R α} {Q1 Q2 : α → Bx → Prop} (a : Ext g F H F1 H1 w) (h : PostG g F H E Q1 r) (i : ∀ a w, Q1 a w → Q2 a w) : PostG g F1 H1 E Q2 r := by
  cases r with
  | ok x w => exact i x w h
  | err c fs w => exact PErr.of a h
  | bad => exact h
theorem Post.of {r : R D} {Q : VK} (a : Ext g F H F1 H1 w) (h : Post g F H Q E r) : Post g F1 H1 Q E r :=
  PostG.ext a h fun _ _ q v H' F' e r => q v H' F' (a.trans e) r
theorem PostA.of {r : R (List D)} {Q : List V → Hp → Prop} (a : Ext g F H F1 H1 w) (h : PostA g F H Q E r) : PostA g F1 H1 Q E r :=
  PostG.ext a h fun _ _ q v H' F' e r => q v H' F' (a.trans e) r
theorem PostT.of {r : R Bool} {Q : Bool → Hp → Prop} (a : Ext g F H F1 H1 w) (h : PostT g F H Q E r) : PostT g F1 H1 Q E r :=
  PostG.ext a h fun _ _ q H' F' e => q H' F' (a.trans e)
theorem PostO.of {r : R (List D)} {Q : VK} (a : Ext g F H F1 H1 w) (h : PostO g F H Q E r) : PostO g F1 H1 Q E r :=
  PostG.ext a h fun _ _ q p vs H' F' e n => q p vs H' F' (a.trans e) (a.fresh n)
/-- a good end where it stands -/
theorem Post.now {d : D} {v : V} {Q : VK} (h : Post g F H Q E (.ok d w)) (s : Same F H) (b : BxOk g F w H) (r : DR g F v d) : Q v H := h v H F (Ext.refl s b) r
end
/-- nothing is let out -/
theorem passLN {X : Cx} : Passes (L2N.CX X.prog X.w) X E0 := fun _ _ _ _ _ _ _ h => by
  obtain ⟨_, _, _, _, _, _, _, _, _, _, _, _, z⟩ := h
  exact z.elim
end Y
namespace Y
open PySem PySem.Spec PyProof.Rows L2
/-! ### slots -/
/-- a lambda: its qualified name, its parameters, body and scope -/
structure LamI where
  q : Str
  ps : Arguments
  bd : Expr
  sc : Scope
/-- the function object of a lambda, its closure from the cells cl -/
def LamF (cl : List (Str × Addr)) (f c' : Addr) (dV : Value) (l : LamI) : HO := .ext fun h => ∃ doc pm ctv, h.get? f = some (PySem.W.kdv_obj "<lambda>" l.q l.ps (.expr l.bd) l.sc (cloFrom cl l.sc.names []) dV doc pm c' ctv)
/-- its defaults: none, or a number -/
def DflF (F : Hp) (dV : Value) (ps : Arguments) : Prop := (ps.defaults = [] ∧ dV = .none) ∨ ∃ t i j p, ps.defaults = [.Constant (.int i) j p] ∧ dV = .ref t ∧ F t = some (.tup [.int i])
inductive SV where
  | dat (d : D) | own (ds : List D) | ins (c : Str) (fs : List (Str × D)) | lam (ls : List LamI)
/-- a list of lambdas, laid and frozen; their code objects are known -/
inductive LamsOk (g : G) (F : FH) (H : Hp) : List V → List LamI → Prop
  | nil : LamsOk g F H [] []
  | cons {f c' : Addr} {dV : Value} {l : LamI} {vs : List V} {ls : List LamI} (hf : F f = some (LamF g.cl f c' dV l)) (hd : DflF F dV l.ps) (nb : c' ≠ g.bx) (na : ∀ i, F.ad i ≠ some c') (hc : H c' = some (LamX.CodeO c' l.q)) (r : LamsOk g F H vs ls) : LamsOk g F H (.ref f :: vs) (l :: ls)
abbrev SL := List (Option SV)
/-- what is wished of an exception, at the slots -/
abbrev EK := L2.St → XK
abbrev kE (E : XK) : EK := fun _ => E
def SvOk (g : G) (F : FH) (H : Hp) : SV → V → Prop
  | .dat d, v => DR g F v d
  | .own ds, v => ∃ p vs, v = .ref p ∧ F.free p ∧ p ≠ g.bx ∧ H p = some (.lst vs) ∧ DRs g F vs ds
  | .lam ls, v => ∃ p vs, v = .ref p ∧ F p = some (.lst vs) ∧ LamsOk g F H vs ls
  | .ins c fs, v => ∃ C vs, v = .ref g.me ∧ g.cls c = some C ∧ F.free g.me ∧ F.free g.md ∧ g.me ≠ g.bx ∧ g.md ≠ g.bx ∧ H g.me = some (.ins C g.md vs) ∧ H g.md = some (.own g.me) ∧ DRf g F vs fs
structure Rel (g : G) (F : FH) (w : Bx) (S : SL) (σ : L2.St) (H : Hp) : Prop where
  sub : Same F H
  bx : BxOk g F w H
  len : S.length = σ.length
  sl : ∀ (i : Nat) (s : SV), S[i]? = some (some s) → ∃ v, σ[i]? = some (some v) ∧ SvOk g F H s v
  inj : ∀ (i j : Nat) (ds ds2 : List D) (v : V), S[i]? = some (some (.own ds)) → S[j]? = some (some (.own ds2)) → σ[i]? = some (some v) → σ[j]? = some (some v) → i = j
theorem DflF.mono {F F' : Hp} {dV : Value} {ps : Arguments} (e : Same F F') (h : DflF F dV ps) : DflF F' dV ps := by
  rcases h with h | ⟨t, i, j, p, h1, h2, h3⟩
  · exact .inl h
  · exact .inr ⟨t, i, j, p, h1, h2, e _ _ h3⟩
theorem LamsOk.keep {g : G} {F F' : FH} {H H' : Hp} (e : Same F.fz F'.fz) (ka : ∀ a q, a ≠ g.bx → (∀ i, F.ad i ≠ some a) → H a = some (LamX.CodeO a q) → H' a = some (LamX.CodeO a q) ∧ ∀ i, F'.ad i ≠ some a) : ∀ {vs : List V} {ls : List LamI}, LamsOk g F H vs ls → LamsOk g F' H' vs ls
  | _, _, .nil => .nil
  | _, _, .cons hf hd nb na hc r => .cons (e _ _ hf) (hd.mono e) nb (ka _ _ nb na hc).2 (ka _ _ nb na hc).1 (r.keep e ka)
theorem LamsOk.ext {g : G} {F F' : FH} {H H' : Hp} {w : Bx} {vs : List V} {ls : List LamI} (x : Ext g F H F' H' w) (h : LamsOk g F H vs ls) : LamsOk g F' H' vs ls :=
  h.keep x.ff.fz fun a q nb na hc => ⟨x.hh a _ nb na LamX.codeO_ne hc, fun i z => by
    rcases x.nad i a z with y | y
    · exact na i y
    · rw [hc] at y; cases y⟩
/-- another object turns -/
theorem LamsOk.upd {g : G} {F : FH} {H : Hp} {q : Addr} {o o' : HO} {vs : List V} {ls : List LamI} (h : LamsOk g F H vs ls) (hq : H q = some o) (ne : ∀ z, o ≠ .ext z) : LamsOk g F (L2.upd H q o') vs ls :=
  h.keep (Same.refl _) fun a z nb na hc => ⟨by rw [upd_ne fun e => by rw [e, hq] at hc; exact ne _ (Option.some.inj hc)]; exact hc, na⟩
theorem SvOk.ext {g : G} {F F' : FH} {H H' : Hp} {w : Bx} {s : SV} {v : V} (x : Ext g F H F' H' w) (h : SvOk g F H s v) : SvOk g F' H' s v := by
  cases s with
  | dat d => exact DR.mono x.ff h
  | own ds =>
    obtain ⟨p, vs, e, n, nb, hp, r⟩ := h
    exact ⟨p, vs, e, x.free n hp, nb, x.hh p _ nb n.2 (fun _ z => by cases z) hp, r.mono x.ff⟩
  | lam ls =>
    obtain ⟨p, vs, e, h1, h2⟩ := h
    exact ⟨p, vs, e, x.ff.fz _ _ h1, h2.ext x⟩
  | ins c fs =>
    obtain ⟨C, vs, e, hc, n1, n2, nb1, nb2, h1, h2, r⟩ := h
    exact ⟨C, vs, e, hc, x.free n1 h1, x.free n2 h2, nb1, nb2, x.hh _ _ nb1 n1.2 (fun _ z => by cases z) h1, x.hh _ _ nb2 n2.2 (fun _ z => by cases z) h2, r.mono x.ff⟩
theorem Rel.ext {g : G} {F F' : FH} {H H' : Hp} {w w' : Bx} {S : SL} {σ : L2.St} (R : Rel g F w S σ H) (x : Ext g F H F' H' w') : Rel g F' w' S σ H' :=
  ⟨x.sub, x.bx, R.len, fun i s e => let ⟨v, h1, h2⟩ := R.sl i s e; ⟨v, h1, h2.ext x⟩, R.inj⟩
theorem Rel.ex {g : G} {F : FH} {H : Hp} {w : Bx} {S : SL} {σ : L2.St} (R : Rel g F w S σ H) : Ext g F H F H w := Ext.refl R.sub R.bx

/-! ### the judgements -/
abbrev EM := SL → Bx → R D
abbrev TM := SL → Bx → R Bool
abbrev AM := SL → Bx → R (List D)
structure DE (X : Cx) (g : G) (E : EK) (e : Expr) (f : EM) : Prop where
  run : ∃ t, PE X e t ∧ ∀ σ H Q F S w, Rel g F w S σ H → Post g F H Q (E σ) (f S w) → t σ H Q
/-- a new list -/
structure DO (X : Cx) (g : G) (E : EK) (e : Expr) (f : AM) : Prop where
  run : ∃ t, PE X e t ∧ ∀ σ H Q F S w, Rel g F w S σ H → PostO g F H Q (E σ) (f S w) → t σ H Q
structure DT (X : Cx) (g : G) (E : EK) (e : Expr) (f : TM) : Prop where
  run : ∃ t, PT X e t ∧ ∀ σ H Q F S w, Rel g F w S σ H → PostT g F H Q (E σ) (f S w) → t σ H Q
structure DW (X : Cx) (g : G) (E : EK) (e : Expr) (f : TM) : Prop where
  run : ∃ t, PW X e t ∧ ∀ σ H Q F S w, Rel g F w S σ H → PostT g F H Q (E σ) (f S w) → t σ H Q
structure DA (X : Cx) (g : G) (E : EK) (es : List Expr) (f : AM) : Prop where
  run : ∃ t, PA X es t ∧ ∀ σ H Q F S w, Rel g F w S σ H → PostA g F H Q (E σ) (f S w) → t σ H Q

section
variable {X : Cx} {g : G} {E : EK} {e a b c : Expr} {es : List Expr} {pos : Pos} {fa fb f : EM} {fc : TM}
/-! ### names, constants -/
def eVar (i : Nat) : EM := fun S w => match S[i]? with
  | some (some (.dat d)) => .ok d w
  | _ => .bad
def eC (d : D) : EM := fun _ w => .ok d w
theorem de_var (i : Nat) {x : Str} (hN : X.N[i]? = some x := by rfl) (hv : Vis X.env.scope x := by first | exact Or.inl rfl | exact Or.inr (Or.inl rfl) | exact Or.inr (Or.inr rfl)) (hd : (x == ("__debug__" : Str)) = false := by decide)
    (hcd : (x == ("__classdict__" : Str)) = false := by decide) : DE X g E (.Name x pos) (eVar i) := by
  refine ⟨_, pe_var hN hv hd hcd, fun σ H Q F S w R h => ?_⟩
  unfold eVar at h
  split at h
  · rename_i d hs
    obtain ⟨v, e1, e2⟩ := R.sl i _ hs
    exact ⟨v, e1, h v H F R.ex e2⟩
  · exact h.elim
theorem de_int {i : Int} {j : Nat} : DE X g E (.Constant (.int i) j pos) (eC (.int i)) := ⟨_, pe_int, fun σ H Q F S w R h => h _ H F R.ex (.int i)⟩
theorem de_bl {i : Bool} {j : Nat} : DE X g E (.Constant (.bool i) j pos) (eC (.bl i)) := ⟨_, pe_bl, fun σ H Q F S w R h => h _ H F R.ex (.bl i)⟩
theorem de_str {i : Str} {j : Nat} : DE X g E (.Constant (.str i) j pos) (eC (.str i)) := ⟨_, pe_str, fun σ H Q F S w R h => h _ H F R.ex (.str i)⟩
theorem de_non {j : Nat} : DE X g E (.Constant .none j pos) (eC .non) := ⟨_, pe_non, fun σ H Q F S w R h => h _ H F R.ex .non⟩
theorem de_glob {x : Str} {v : V} {u : Value} {d : D} (hm : X.mg x = some u) (r : RelV v u) (hd : ∀ F, DR g F v d) (hg : Gl X x := by rfl) (hdb : (x == ("__debug__" : Str)) = false := by decide) : DE X g E (.Name x pos) (eC d) :=
  ⟨_, pe_glob hg hm r hdb, fun σ H Q F S w R h => h _ H F R.ex (hd F)⟩

/-! ### operators -/
/-- r does on values what m does on data -/
def OpD (g : G) (r : R2) (m : D → D → Option D) : Prop := ∀ (F : FH) (H : Hp) (w : Bx) (x y : V) (d e z : D) (Q : VK), Same F H → BxOk g F w H → DR g F x d → DR g F y e → m d e = some z →
  (∀ v H' F', Ext g F H F' H' w → DR g F' v z → Q v H') → r x y H Q
def eBin (m : D → D → Option D) (fa fb : EM) : EM := fun S w => (fa S w).bind fun d w1 => (fb S w1).bind fun e w2 => R.ofO (m d e) w2
theorem post_ofO {E1 : XK} {F : FH} {H : Hp} {Q : D → Bx → Prop} {o : Option D} {w : Bx} (h : PostG g F H E1 Q (R.ofO o w)) : ∃ z, o = some z ∧ Q z w := by
  cases o with
  | none => exact h.elim
  | some z => exact ⟨z, rfl, h⟩
theorem post_ofO' {α : Type} {E1 : XK} {F : FH} {H : Hp} {Q : α → Bx → Prop} {o : Option α} {w : Bx} (h : PostG g F H E1 Q (R.ofO o w)) : ∃ z, o = some z ∧ Q z w := by
  cases o with
  | none => exact h.elim
  | some z => exact ⟨z, rfl, h⟩
theorem bin_run {r : R2} {m : D → D → Option D} {ta tb : TE} (hm : OpD g r m) (ra : ∀ σ H Q F S w, Rel g F w S σ H → Post g F H Q (E σ) (fa S w) → ta σ H Q) (rb : ∀ σ H Q F S w, Rel g F w S σ H → Post g F H Q (E σ) (fb S w) → tb σ H Q) :
    ∀ σ H Q F S w, Rel g F w S σ H → Post g F H Q (E σ) (eBin m fa fb S w) → tOp r ta tb σ H Q := by
  intro σ H Q F S w R h
  refine ra σ H _ F S w R (PostG.imp (PostG.bind h) fun d w1 _ h1 v H1 F1 x1 r1 => ?_)
  refine rb σ H1 _ F1 S w1 (R.ext x1) (PostG.ext x1 (PostG.bind h1) fun e w2 h2 u H2 F2 x2 r2 => ?_)
  obtain ⟨z, hz, q⟩ := post_ofO h2
  exact hm F2 H2 w2 v u d e z Q x2.sub x2.bx (r1.mono x2.ff) r2 hz fun v' H' F' x3 r3 => q v' H' F' ((x1.trans x2).trans x3) r3
theorem de_op {op : Operator} {r : R2} {m : D → D → Option D} (ho : OpR X (binaryOp op) r) (hm : OpD g r m) (ha : DE X g E a fa) (hb : DE X g E b fb) : DE X g E (.BinOp a op b pos) (eBin m fa fb) := by
  obtain ⟨ta, pa, ra⟩ := ha.run
  obtain ⟨tb, pb, rb⟩ := hb.run
  exact ⟨_, pe_op ho pa pb, bin_run hm ra rb⟩
theorem de_cmp {op : CmpOp} {r : R2} {m : D → D → Option D} (ho : OpR X (compareOp op) r) (hm : OpD g r m) (ha : DE X g E a fa) (hb : DE X g E b fb) (hk : behindInMarks op b = false := by first | exact nomark _ | rfl) : DE X g E (.Compare a [op] [b] pos) (eBin m fa fb) := by
  obtain ⟨ta, pa, ra⟩ := ha.run
  obtain ⟨tb, pb, rb⟩ := hb.run
  exact ⟨_, pe_cmpR ho pa pb hk, bin_run hm ra rb⟩
/-- a value that must be a bool, as a test -/
def tOf (f : EM) : TM := fun S w => (f S w).bind fun d w1 => match d with
  | .bl b => .ok b w1
  | _ => .bad
theorem dt_of {ta : TE} (ra : ∀ σ H Q F S w, Rel g F w S σ H → Post g F H Q (E σ) (fa S w) → ta σ H Q) :
    ∀ σ H (Q : Bool → Hp → Prop) F S w, Rel g F w S σ H → PostT g F H Q (E σ) (tOf fa S w) → ta σ H (fun x H' => ∃ k, x = .bl k ∧ Q k H') := by
  intro σ H Q F S w R h
  refine ra σ H _ F S w R (PostG.imp (PostG.bind h) fun d w1 _ h1 v H1 F1 x1 r1 => ?_)
  cases r1 with
  | bl k => exact ⟨k, rfl, h1 H1 F1 x1⟩
  | _ => exact h1.elim
theorem dt_val (ha : DE X g E a fa) (he : ∀ whole, isTrue a X.env whole = (do let v ← whole; standAt a.pos; holding [v] (truthy v)) := by intro _; rfl) : DT X g E a (tOf fa) := by
  obtain ⟨ta, pa, ra⟩ := ha.run
  exact ⟨_, pt_val pa he, dt_of ra⟩
theorem dt_cmp {op : CmpOp} {r : R2} {m : D → D → Option D} (ho : OpR X (compareOp op) r) (hm : OpD g r m) (ha : DE X g E a fa) (hb : DE X g E b fb) (hk : behindInMarks op b = false := by first | exact nomark _ | rfl) : DT X g E (.Compare a [op] [b] pos) (tOf (eBin m fa fb)) := by
  obtain ⟨ta, pa, ra⟩ := ha.run
  obtain ⟨tb, pb, rb⟩ := hb.run
  exact ⟨_, pt_cmpR ho pa pb hk, dt_of (bin_run hm ra rb)⟩
/-! ### and, or, not, if .. else -/
def tNotM (f : TM) : TM := fun S w => (f S w).bind fun b w1 => .ok (!b) w1
def tAndM (f h : TM) : TM := fun S w => (f S w).bind fun b w1 => if b then h S w1 else .ok false w1
def tOrM (f h : TM) : TM := fun S w => (f S w).bind fun b w1 => if b then .ok true w1 else h S w1
def eIf (t : TM) (fa fb : EM) : EM := fun S w => (t S w).bind fun b w1 => if b then fa S w1 else fb S w1
def eNotM (f : EM) : EM := fun S w => (tOf f S w).bind fun b w1 => .ok (.bl (!b)) w1
def eAndM (f h : EM) : EM := fun S w => (tOf f S w).bind fun b w1 => if b then h S w1 else .ok (.bl false) w1
def eOrM (f h : EM) : EM := fun S w => (tOf f S w).bind fun b w1 => if b then .ok (.bl true) w1 else h S w1
variable {ta tb : TM} {rest : List Expr}
theorem DW.t (h : DW X g E e ta) : DT X g E e ta := let ⟨t, p, r⟩ := h.run; ⟨t, p.pt, r⟩
theorem dt_not (h : DT X g E a ta) : DT X g E (.UnaryOp .Not a pos) (tNotM ta) := by
  obtain ⟨t, p, r⟩ := h.run
  refine ⟨_, pt_not p, fun σ H Q F S w R h => ?_⟩
  exact r σ H _ F S w R (PostG.imp (PostG.bind h) fun b w1 _ h1 H1 F1 x1 => h1 H1 F1 x1)
theorem dw_and1 (h : DT X g E a ta) : DW X g E (.BoolOp .And [a] pos) ta := let ⟨t, p, r⟩ := h.run; ⟨t, pw_and1 p, r⟩
theorem dw_or1 (h : DT X g E a ta) : DW X g E (.BoolOp .Or [a] pos) ta := let ⟨t, p, r⟩ := h.run; ⟨t, pw_or1 p, r⟩
theorem dw_and (ha : DT X g E a ta) (hb : DW X g E (.BoolOp .And (b :: rest) pos) tb) : DW X g E (.BoolOp .And (a :: b :: rest) pos) (tAndM ta tb) := by
  obtain ⟨t, p, r⟩ := ha.run
  obtain ⟨t2, p2, r2⟩ := hb.run
  refine ⟨_, pw_and p p2, fun σ H Q F S w R h => ?_⟩
  refine r σ H _ F S w R (PostG.imp (PostG.bind h) fun b w1 _ h1 H1 F1 x1 => ?_)
  cases b with
  | true => exact iteT (r2 σ H1 Q F1 S w1 (R.ext x1) (PostT.of x1 h1))
  | false => exact iteF (h1 H1 F1 x1)
theorem dw_or (ha : DT X g E a ta) (hb : DW X g E (.BoolOp .Or (b :: rest) pos) tb) : DW X g E (.BoolOp .Or (a :: b :: rest) pos) (tOrM ta tb) := by
  obtain ⟨t, p, r⟩ := ha.run
  obtain ⟨t2, p2, r2⟩ := hb.run
  refine ⟨_, pw_or p p2, fun σ H Q F S w R h => ?_⟩
  refine r σ H _ F S w R (PostG.imp (PostG.bind h) fun b w1 _ h1 H1 F1 x1 => ?_)
  cases b with
  | false => exact iteF (r2 σ H1 Q F1 S w1 (R.ext x1) (PostT.of x1 h1))
  | true => exact iteT (h1 H1 F1 x1)
theorem de_if (hc : DT X g E c ta) (ha : DE X g E a fa) (hb : DE X g E b fb) : DE X g E (.IfExp c a b pos) (eIf ta fa fb) := by
  obtain ⟨t, p, r⟩ := hc.run
  obtain ⟨t1, p1, r1⟩ := ha.run
  obtain ⟨t2, p2, r2⟩ := hb.run
  refine ⟨_, pe_ifExp p p1 p2, fun σ H Q F S w R h => ?_⟩
  refine r σ H _ F S w R (PostG.imp (PostG.bind h) fun b w1 _ h1 H1 F1 x1 => ?_)
  cases b with
  | true => exact iteT (r1 σ H1 Q F1 S w1 (R.ext x1) (Post.of x1 h1))
  | false => exact iteF (r2 σ H1 Q F1 S w1 (R.ext x1) (Post.of x1 h1))
theorem de_not (ha : DE X g E a fa) : DE X g E (.UnaryOp .Not a pos) (eNotM fa) := by
  obtain ⟨t, p, r⟩ := ha.run
  refine ⟨_, pe_not p, fun σ H Q F S w R h => ?_⟩
  exact dt_of r σ H (fun b H' => Q (.bl (!b)) H') F S w R (PostG.imp (PostG.bind h) fun b w1 _ h1 H1 F1 x1 => h1 _ H1 F1 x1 (.bl _))
theorem de_one {op : BoolOp} (ha : DE X g E a fa) : DE X g E (.BoolOp op [a] pos) fa := let ⟨t, p, r⟩ := ha.run; ⟨t, pe_one p, r⟩
theorem de_and (ha : DE X g E a fa) (hb : DE X g E (.BoolOp .And (b :: rest) pos) fb) : DE X g E (.BoolOp .And (a :: b :: rest) pos) (eAndM fa fb) := by
  obtain ⟨t, p, r⟩ := ha.run
  obtain ⟨t2, p2, r2⟩ := hb.run
  refine ⟨_, pe_and p p2, fun σ H Q F S w R h => ?_⟩
  refine dt_of r σ H (fun c H1 => if c = true then t2 σ H1 Q else Q (.bl false) H1) F S w R (PostG.imp (PostG.bind h) fun b w1 _ h1 H1 F1 x1 => ?_)
  cases b with
  | true => exact iteT (r2 σ H1 Q F1 S w1 (R.ext x1) (Post.of x1 h1))
  | false => exact iteF (h1 _ H1 F1 x1 (.bl _))
/-! ### arguments, displays -/
def aNil : AM := fun _ w => .ok [] w
def aCons (f : EM) (h : AM) : AM := fun S w => (f S w).bind fun d w1 => (h S w1).bind fun ds w2 => .ok (d :: ds) w2
variable {fs : AM}
theorem da_nil : DA X g E [] aNil := ⟨_, pa_nil, fun σ H Q F S w R h => h [] H F R.ex .nil⟩
theorem da_cons (ha : DE X g E e fa) (hr : DA X g E es fs) (hs : starEach (e :: es) X.env = (false, eval e X.env) :: starEach es X.env := by rfl) : DA X g E (e :: es) (aCons fa fs) := by
  obtain ⟨t, p, r⟩ := ha.run
  obtain ⟨t2, p2, r2⟩ := hr.run
  refine ⟨_, pa_cons p p2 hs, fun σ H Q F S w R h => ?_⟩
  refine r σ H _ F S w R (PostG.imp (PostG.bind h) fun d w1 _ h1 v H1 F1 x1 q1 => ?_)
  refine r2 σ H1 _ F1 S w1 (R.ext x1) (PostG.ext x1 (PostG.bind h1) fun ds w2 h2 vs H2 F2 x2 q2 => ?_)
  exact h2 (v :: vs) H2 F2 (x1.trans x2) (.cons (q1.mono x2.ff) q2)
def sizeN : Nat := 16777216
theorem sizeN_line : sizeN = sizeLine := rfl
def eTup (f : AM) : EM := fun S w => (f S w).bind fun ds w1 => if ds.length ≤ sizeN then .ok (.tup ds) w1 else .bad
def oLst (f : AM) : AM := fun S w => (f S w).bind fun ds w1 => if ds.length ≤ sizeN then .ok ds w1 else .bad
theorem de_tup {x1 : Nat} (h : DA X g E es fs) : DE X g E (.Tuple es x1 pos) (eTup fs) := by
  obtain ⟨t, p, r⟩ := h.run
  refine ⟨_, pe_tup p, fun σ H Q F S w R h => ?_⟩
  refine r σ H _ F S w R (PostG.imp (PostG.bind h) fun ds w1 _ h1 vs H1 F1 x1 q1 => ?_)
  by_cases hl : ds.length ≤ sizeN
  · rw [if_pos hl] at h1
    refine ⟨by rw [q1.length]; exact hl, fun p np => ?_⟩
    exact h1 _ _ _ (x1.trans (Ext.lay x1.sub x1.bx np)) (.tup (.inl (.inl upd_same)) (q1.mono (Ext.lay x1.sub x1.bx np).ff))
  · rw [if_neg hl] at h1; exact h1.elim
theorem do_lst (h : DA X g E es fs) : DO X g E (.List es pos) (oLst fs) := by
  obtain ⟨t, p, r⟩ := h.run
  refine ⟨_, pe_lst p, fun σ H Q F S w R h => ?_⟩
  refine r σ H _ F S w R (PostG.imp (PostG.bind h) fun ds w1 _ h1 vs H1 F1 x1 q1 => ?_)
  by_cases hl : ds.length ≤ sizeN
  · rw [if_pos hl] at h1
    refine ⟨by rw [q1.length]; exact hl, fun p np => ?_⟩
    exact h1 p vs _ F1 (x1.trans (Ext.own x1.sub x1.bx np)) (x1.fresh np) (free_of x1.sub x1.bx np) upd_same q1
  · rw [if_neg hl] at h1; exact h1.elim
/-- a new list that nobody will change -/
def eFrz (f : AM) : EM := fun S w => (f S w).bind fun ds w1 => .ok (.lst ds) w1
theorem DO.de (h : DO X g E e fs) : DE X g E e (eFrz fs) := by
  obtain ⟨t, p, r⟩ := h.run
  refine ⟨t, p, fun σ H Q F S w R h => ?_⟩
  refine r σ H _ F S w R (PostG.imp (PostG.bind h) fun ds w1 _ h1 p vs H1 F1 x1 np n1 hp q1 => ?_)
  have nb : p ≠ g.bx := fun e => by
    obtain ⟨c, h, _⟩ := R.bx.at_
    rw [e, h] at np; cases np
  have x2 := Ext.freeze x1 np n1 hp nb
  exact h1 (.ref p) H1 _ x2 (.lst upd_same (q1.mono (FSame.upd n1.1)))
end
end Y
namespace Y
open PySem PySem.Spec PyProof.Rows L2
/-! ### data as the library's own -/
mutual
def toPy : D → Option PyData
  | .non => some .none
  | .bl b => some (.bool b)
  | .int i => some (.int i)
  | .str s => some (.str s)
  | .lst ds => (toPys ds).map .list
  | .tup ds => (toPys ds).map .tuple
  | .box => none
  | .obj _ _ => none
  | .dct _ => none
  | .cel _ => none
def toPys : List D → Option (List PyData)
  | [] => some []
  | d :: ds => (toPy d).bind fun p => (toPys ds).bind fun ps => some (p :: ps)
end
mutual
theorem dp_of {g : G} {F : FH} {H : Hp} (s : Same F H) : ∀ {v : V} {d : D} {p : PyData}, DR g F v d → toPy d = some p → Dp g.K H v p
  | _, _, _, .non, e => by rw [toPy] at e; cases e; exact .non
  | _, _, _, .bl b, e => by rw [toPy] at e; cases e; exact .bl b
  | _, _, _, .int b, e => by rw [toPy] at e; cases e; exact .int b
  | _, _, _, .str b, e => by rw [toPy] at e; cases e; exact .str b
  | _, _, _, .lst (ds := ds) h r, e => by
    rw [toPy] at e
    obtain ⟨ps, e1, e2⟩ := Option.map_eq_some_iff.mp e
    subst e2
    exact .lst (.inl (.inl (s _ _ h))) (dps_of s r e1)
  | _, _, _, .tup (ds := ds) h r, e => by
    rw [toPy] at e
    obtain ⟨ps, e1, e2⟩ := Option.map_eq_some_iff.mp e
    subst e2
    exact .tup (same_T s h) (dps_of s r e1)
  | _, _, _, .box, e => by rw [toPy] at e; cases e
  | _, _, _, .obj _ _ _ _, e => by rw [toPy] at e; cases e
  | _, _, _, .dct _ _, e => by rw [toPy] at e; cases e
  | _, _, _, .cel _, e => by rw [toPy] at e; cases e
theorem dps_of {g : G} {F : FH} {H : Hp} (s : Same F H) : ∀ {v : List V} {d : List D} {p : List PyData}, DRs g F v d → toPys d = some p → DpAll g.K H v p
  | _, _, _, .nil, e => by rw [toPys] at e; cases e; exact .nil
  | _, _, _, .cons h r, e => by
    rw [toPys] at e
    obtain ⟨p, e1, e⟩ := Option.bind_eq_some_iff.mp e
    obtain ⟨ps, e2, e⟩ := Option.bind_eq_some_iff.mp e
    cases e
    exact .cons (dp_of s h e1) (dps_of s r e2)
end
def shp (d : D) : Option PyData := (toPy d).bind fun p => if SeqAt.shaped p then some p else none
theorem shp_some {d : D} {p : PyData} (h : shp d = some p) : toPy d = some p ∧ SeqAt.shaped p = true := by
  unfold shp at h
  obtain ⟨q, e1, e2⟩ := Option.bind_eq_some_iff.mp h
  by_cases hs : SeqAt.shaped q = true
  · rw [if_pos hs] at e2; cases e2; exact ⟨e1, hs⟩
  · rw [if_neg hs] at e2; cases e2

/-! ### operators on data -/
def mulS (x : Str) (n : Nat) : Str := ⟨(List.replicate n x.cps.toList).flatten.toArray⟩
def mAdd : D → D → Option D
  | .int i, .int j => some (.int (i + j))
  | .str x, .str y => if x.length + y.length ≤ sizeN then some (.str (x ++ y)) else none
  | .tup x, .tup y => if x.length + y.length ≤ sizeN then some (.tup (x ++ y)) else none
  | .lst x, .lst y => if x.length + y.length ≤ sizeN then some (.lst (x ++ y)) else none
  | _, _ => none
def mMul : D → D → Option D
  | .int i, .int j => if (-(2 ^ 64) < i ∧ i < 2 ^ 64) ∨ (-(2 ^ 64) < j ∧ j < 2 ^ 64) then some (.int (i * j)) else none
  | .str x, .int n => if 0 ≤ n ∧ n < 2 ^ 30 ∧ x.length * n.toNat ≤ sizeN then some (.str (mulS x n.toNat)) else none
  | .lst x, .int n => if 0 ≤ n ∧ n < 2 ^ 30 ∧ x.length * n.toNat ≤ sizeN then some (.lst (List.replicate n.toNat x).flatten) else none
  | _, _ => none
def mMod : D → D → Option D
  | .int i, .int j => if 0 < j then some (.int (i % j)) else none
  | _, _ => none
def mDiv : D → D → Option D
  | .int i, .int j => if 0 < j ∧ j < 1073741824 then some (.int (i / j)) else none
  | _, _ => none
def mPow : D → D → Option D
  | .int i, .int j => if 0 ≤ j ∧ j ≤ 1000000 ∧ i.natAbs < 2 ^ 64 then some (.int (i ^ j.toNat)) else none
  | _, _ => none
def mI (f : Int → Int → Bool) : D → D → Option D
  | .int i, .int j => some (.bl (f i j))
  | _, _ => none
def mLt : D → D → Option D
  | .int i, .int j => some (.bl (decide (i < j)))
  | .str x, .str y => some (.bl (decide (x.cps.toList < y.cps.toList)))
  | _, _ => none
def eqB : D → D → Option Bool
  | .int i, .int j => some (decide (i = j))
  | .str i, .str j => some (decide (i = j))
  | .bl i, .bl j => some (decide (i = j))
  | d, e => (shp d).bind fun p => (shp e).bind fun q => some (PyData.eqv p q)
def mEq (d e : D) : Option D := (eqB d e).map .bl
def mNe (d e : D) : Option D := (eqB d e).map fun b => .bl (!b)
def inB : D → D → Option Bool
  | .str x, .str y => match x.cps.toList with
    | [c] => some (decide (c ∈ y.cps.toList))
    | _ => some (!(Builtin.Str.occurrences y x 0 y.length 1).isEmpty)
  | d, .lst ds => (shp d).bind fun p => (shp (.lst ds)).bind fun q => match q with
    | .list ps => some (ps.any fun z => PyData.eqv z p)
    | _ => none
  | d, .tup ds => (shp d).bind fun p => (shp (.tup ds)).bind fun q => match q with
    | .tuple ps => some (ps.any fun z => PyData.eqv z p)
    | _ => none
  | _, _ => none
def mIn (d e : D) : Option D := (inB d e).map .bl
def mNotIn (d e : D) : Option D := (inB d e).map fun b => .bl (!b)
def isNon : D → Bool
  | .non => true
  | _ => false
def mIs : D → D → Option D
  | d, .non => some (.bl (isNon d))
  | _, _ => none
section
variable {X : Cx} {g : G}
theorem here {F : FH} {H : Hp} {w : Bx} {v : V} {d : D} {Q : VK} (s : Same F H) (b : BxOk g F w H) (r : DR g F v d) (q : ∀ v H' F', Ext g F H F' H' w → DR g F' v d → Q v H') : Q v H := q v H F (Ext.refl s b) r
/-- the rule of a new list, of a new tuple -/
theorem lay_l {F : FH} {H : Hp} {w : Bx} {vs : List V} {ds : List D} {Q : VK} (s : Same F H) (b : BxOk g F w H) (r : DRs g F vs ds) (q : ∀ v H' F', Ext g F H F' H' w → DR g F' v (.lst ds) → Q v H') : ∀ p, H p = none → Q (.ref p) (upd H p (.lst vs)) := fun p np =>
  q _ _ _ (Ext.lay s b np) (.lst upd_same (r.mono (Ext.lay s b np).ff))
theorem lay_t {F : FH} {H : Hp} {w : Bx} {vs : List V} {ds : List D} {Q : VK} (s : Same F H) (b : BxOk g F w H) (r : DRs g F vs ds) (q : ∀ v H' F', Ext g F H F' H' w → DR g F' v (.tup ds) → Q v H') : ∀ p, H p = none → Q (.ref p) (upd H p (.tup vs)) := fun p np =>
  q _ _ _ (Ext.lay s b np) (.tup (.inl (.inl upd_same)) (r.mono (Ext.lay s b np).ff))
def rAdd4 (K : PySem.W.Frag) : R2 := fun x y H Q => (∃ i j, x = .int i ∧ y = .int j ∧ Q (.int (i + j)) H) ∨ (∃ i j, x = .str i ∧ y = .str j ∧ i.length + j.length ≤ sizeLine ∧ Q (.str (i ++ j)) H) ∨ rCatA K x y H Q ∨ rCat x y H Q
theorem op_addX : OpR X (binaryOp .Add) (rAdd4 X.K) := OpR.or op_add (OpR.or op_add_str (OpR.or op_catA op_cat))
theorem od_add (hK : g.K = X.K) : OpD g (rAdd4 X.K) mAdd := by
  intro F H w x y d e z Q s b rx ry hz q
  rw [← hK]
  cases rx with
  | int i =>
    cases ry with
    | int j => cases hz; exact .inl ⟨i, j, rfl, rfl, here s b (.int _) q⟩
    | _ => cases hz
  | str i =>
    cases ry with
    | str j =>
      unfold mAdd at hz
      by_cases hl : i.length + j.length ≤ sizeN
      · simp only [if_pos hl] at hz; cases hz; exact .inr (.inl ⟨i, j, rfl, rfl, hl, here s b (.str _) q⟩)
      · simp only [if_neg hl] at hz; cases hz
    | _ => cases hz
  | @tup a xs ds h r =>
    cases ry with
    | @tup a2 ys es h2 r2 =>
      unfold mAdd at hz
      by_cases hl : ds.length + es.length ≤ sizeN
      · simp only [if_pos hl] at hz; cases hz
        refine .inr (.inr (.inl ⟨_, _, xs, ys, rfl, rfl, same_T s h, same_T s h2, by rw [r.length, r2.length]; exact hl, fun e0 => ?_, fun _ e0 => ?_, fun _ _ => lay_t s b (r.append r2) q⟩))
        · subst e0; cases r; exact here s b (.tup h2 r2) q
        · subst e0; cases r2; rw [List.append_nil] at q; exact here s b (.tup h r) q
      · simp only [if_neg hl] at hz; cases hz
    | _ => cases hz
  | @lst a xs ds h r =>
    cases ry with
    | @lst a2 ys es h2 r2 =>
      unfold mAdd at hz
      by_cases hl : ds.length + es.length ≤ sizeN
      · simp only [if_pos hl] at hz; cases hz
        exact .inr (.inr (.inr ⟨_, _, xs, ys, rfl, rfl, s _ _ h, s _ _ h2, by rw [r.length, r2.length]; exact hl, lay_l s b (r.append r2) q⟩))
      · simp only [if_neg hl] at hz; cases hz
    | _ => cases hz
  | _ => cases hz
theorem od_I {C : Int → Int → Prop} {f : Int → Int → Int} {m : D → D → Option D} (hm : ∀ d e z, m d e = some z → ∃ i j, d = .int i ∧ e = .int j ∧ C i j ∧ z = .int (f i j)) : OpD g (rI C fun i j => .int (f i j)) m := by
  intro F H w x y d e z Q s b rx ry hz q
  obtain ⟨i, j, rfl, rfl, hc, rfl⟩ := hm d e z hz
  cases rx; cases ry
  exact ⟨i, j, rfl, rfl, hc, here s b (.int _) q⟩
theorem od_mod : OpD g (rI (fun _ j => 0 < j) fun i j => .int (i % j)) mMod := od_I fun d e z h => by
  unfold mMod at h
  split at h
  · split at h
    · cases h; exact ⟨_, _, rfl, rfl, by assumption, rfl⟩
    · cases h
  · cases h
theorem od_div : OpD g (rI CDiv fun i j => .int (i / j)) mDiv := od_I fun d e z h => by
  unfold mDiv at h
  split at h
  · split at h
    · cases h; exact ⟨_, _, rfl, rfl, by assumption, rfl⟩
    · cases h
  · cases h
theorem od_pow : OpD g (rI CPow fun i j => .int (i ^ j.toNat)) mPow := od_I fun d e z h => by
  unfold mPow at h
  split at h
  · split at h
    · cases h; exact ⟨_, _, rfl, rfl, by assumption, rfl⟩
    · cases h
  · cases h
/-! str * int -/
theorem foldl_app : ∀ (l : List (Array Nat)) (a : Array Nat), (l.foldl (· ++ ·) a).toList = a.toList ++ (l.map Array.toList).flatten
  | [], a => by simp
  | x :: l, a => by rw [List.foldl_cons, foldl_app l]; simp
theorem txt_mul (x : Str) (n : Int) (h : 0 ≤ n) : Txt.mul x n = mulS x n.toNat := by
  unfold Txt.mul mulS
  by_cases h1 : n < 1
  · rw [if_pos h1]
    have : n.toNat = 0 := by omega
    rw [this]; rfl
  · rw [if_neg h1]
    by_cases h2 : (n == 1 || x.length == 0) = true
    · rw [if_pos h2]
      obtain ⟨cs⟩ := x
      rcases Bool.or_eq_true_iff.mp h2 with h3 | h3
      · have : n = 1 := by simpa using h3
        subst this
        simp
      · have h4 : cs.size = 0 := by simpa [Str.length] using h3
        have h5 : cs = #[] := Array.size_eq_zero_iff.mp h4
        subst h5
        simp
    · rw [if_neg h2]
      congr 1
      apply Array.toList_inj.mp
      rw [foldl_app]
      simp
def rMulS : R2 := fun x y H Q => ∃ (i : Str) (n : Int), x = .str i ∧ y = .int n ∧ 0 ≤ n ∧ n < 2 ^ 30 ∧ i.length * n.toNat ≤ sizeLine ∧ Q (.str (mulS i n.toNat)) H
theorem op_mulS : OpR X (binaryOp .Mult) rMulS := by
  intro pins s σ H x y v u Q I rx ry h
  obtain ⟨i, n, rfl, rfl, h0, h1, hl, q⟩ := h
  obtain ⟨t, rfl⟩ := rx
  obtain ⟨t', rfl⟩ := ry
  refine SB.mul ⟨?_, fun hn _ => ?_, fun hn _ => ?_⟩ fun t' k => ⟨.str _, H, I.tok k, ⟨t', by rw [txt_mul i n h0]⟩, q⟩
  · rw [decide_eq_false (by omega), decide_eq_false (by omega)]; rfl
  · have hs : sizeLine = 16777216 := rfl
    rw [hs] at hl
    intro hc
    have h3 : (i.length : Int) ≤ 16777216 := by
      have : 1 ≤ n.toNat := by omega
      have : i.length * 1 ≤ i.length * n.toNat := Nat.mul_le_mul_left _ this
      omega
    have h4 : (2 ^ 63 - 1) / (2 ^ 30 : Int) ≤ (2 ^ 63 - 1) / n := by
      have hn0 : (0 : Int) < n := by omega
      rw [Int.le_ediv_iff_mul_le hn0]
      have : (2 ^ 63 - 1) / (2 ^ 30 : Int) = 8589934591 := by decide
      rw [this]
      omega
    have : (2 ^ 63 - 1) / (2 ^ 30 : Int) = 8589934591 := by decide
    omega
  · unfold Builtin.Str.tooLong
    have hs : sizeLine = 16777216 := rfl
    simp only [decide_eq_false_iff_not]
    omega
def rMul3 : R2 := fun x y H Q => rI CMul (fun i j => .int (i * j)) x y H Q ∨ rMulS x y H Q ∨ rRep x y H Q
theorem op_mulX : OpR X (binaryOp .Mult) rMul3 := OpR.or op_mul (OpR.or op_mulS op_rep)
theorem DRs.flat {g : G} {F : FH} {vs : List V} {ds : List D} (r : DRs g F vs ds) : ∀ n : Nat, DRs g F (List.replicate n vs).flatten (List.replicate n ds).flatten
  | 0 => .nil
  | n + 1 => by rw [List.replicate_succ, List.replicate_succ, List.flatten_cons, List.flatten_cons]; exact r.append (DRs.flat r n)
theorem od_mul : OpD g rMul3 mMul := by
  intro F H w x y d e z Q s b rx ry hz q
  cases rx with
  | int i =>
    cases ry with
    | int j =>
      unfold mMul at hz
      by_cases hl : (-(2 ^ 64) < i ∧ i < 2 ^ 64) ∨ (-(2 ^ 64) < j ∧ j < 2 ^ 64)
      · simp only [if_pos hl] at hz; cases hz; exact .inl ⟨i, j, rfl, rfl, hl, here s b (.int _) q⟩
      · simp only [if_neg hl] at hz; cases hz
    | _ => cases hz
  | str i =>
    cases ry with
    | int j =>
      unfold mMul at hz
      by_cases hl : 0 ≤ j ∧ j < 2 ^ 30 ∧ i.length * j.toNat ≤ sizeN
      · simp only [if_pos hl] at hz; cases hz; exact .inr (.inl ⟨i, j, rfl, rfl, hl.1, hl.2.1, hl.2.2, here s b (.str _) q⟩)
      · simp only [if_neg hl] at hz; cases hz
    | _ => cases hz
  | @lst a xs ds h r =>
    cases ry with
    | int j =>
      unfold mMul at hz
      by_cases hl : 0 ≤ j ∧ j < 2 ^ 30 ∧ ds.length * j.toNat ≤ sizeN
      · simp only [if_pos hl] at hz; cases hz
        exact .inr (.inr ⟨_, j, xs, rfl, rfl, s _ _ h, by omega, by omega, by rw [r.length]; exact hl.2.2, lay_l s b (r.flat _) q⟩)
      · simp only [if_neg hl] at hz; cases hz
    | _ => cases hz
  | _ => cases hz
/-! comparisons -/
theorem od_B0 {f : Int → Int → Bool} : OpD g (rI0 fun i j => .bl (f i j)) (mI f) := by
  intro F H w x y d e z Q s b rx ry hz q
  unfold mI at hz
  split at hz
  · cases hz; cases rx; cases ry; exact ⟨_, _, rfl, rfl, here s b (.bl _) q⟩
  · cases hz
def rLt2 : R2 := fun x y H Q => rI0 (fun i j => .bl (decide (i < j))) x y H Q ∨ (∃ i j, x = .str i ∧ y = .str j ∧ Q (.bl (decide (i.cps.toList < j.cps.toList))) H)
theorem op_ltX : OpR X (compareOp .Lt) rLt2 := OpR.or op_lt op_lt_str
theorem od_lt : OpD g rLt2 mLt := by
  intro F H w x y d e z Q s b rx ry hz q
  unfold mLt at hz
  split at hz
  · cases hz; cases rx; cases ry; exact .inl ⟨_, _, rfl, rfl, here s b (.bl _) q⟩
  · cases hz; cases rx; cases ry; exact .inr ⟨_, _, rfl, rfl, here s b (.bl _) q⟩
  · cases hz
def rEq2 (K : PySem.W.Frag) : R2 := fun x y H Q => rEq x y H Q ∨ rEqD K x y H Q
def rNe2 (K : PySem.W.Frag) : R2 := fun x y H Q => rNe x y H Q ∨ rNeD K x y H Q
theorem op_eqX (hu : X.A.units + 64 < cLine) : OpR X (compareOp .Eq) (rEq2 X.K) := OpR.or op_eq (op_eqD hu)
theorem op_neX (hu : X.A.units + 64 < cLine) : OpR X (compareOp .NotEq) (rNe2 X.K) := OpR.or op_ne (op_neD hu)
theorem eq_cases {F : FH} {H : Hp} {x y : V} {d e : D} {b : Bool} (s : Same F H) (rx : DR g F x d) (ry : DR g F y e) (h : eqB d e = some b) :
    (scal x y = true ∧ b = decide (x = y)) ∨ ∃ p q, Dp g.K H x p ∧ Dp g.K H y q ∧ SeqAt.shaped p = true ∧ SeqAt.shaped q = true ∧ b = PyData.eqv p q := by
  have gen : ∀ {d e : D}, DR g F x d → DR g F y e → ((shp d).bind fun p => (shp e).bind fun q => some (PyData.eqv p q)) = some b →
      ∃ p q, Dp g.K H x p ∧ Dp g.K H y q ∧ SeqAt.shaped p = true ∧ SeqAt.shaped q = true ∧ b = PyData.eqv p q := fun rx ry h => by
    obtain ⟨p, e1, h⟩ := Option.bind_eq_some_iff.mp h
    obtain ⟨q, e2, h⟩ := Option.bind_eq_some_iff.mp h
    cases h
    obtain ⟨a1, a2⟩ := shp_some e1
    obtain ⟨b1, b2⟩ := shp_some e2
    exact ⟨p, q, dp_of s rx a1, dp_of s ry b1, a2, b2, rfl⟩
  unfold eqB at h
  split at h
  · cases h; cases rx; cases ry; exact .inl ⟨rfl, by simp⟩
  · cases h; cases rx; cases ry; exact .inl ⟨rfl, by simp⟩
  · cases h; cases rx; cases ry; exact .inl ⟨rfl, by simp⟩
  · exact .inr (gen rx ry h)
theorem od_eq (hK : g.K = X.K) : OpD g (rEq2 X.K) mEq := by
  intro F H w x y d e z Q s b rx ry hz q
  rw [← hK]
  obtain ⟨k, e1, e2⟩ := Option.map_eq_some_iff.mp hz
  subst e2
  rcases eq_cases s rx ry e1 with ⟨h1, h2⟩ | ⟨p, r, h1, h2, h3, h4, h5⟩
  · subst h2; exact .inl ⟨h1, here s b (.bl _) q⟩
  · subst h5; exact .inr ⟨p, r, h1, h2, h3, h4, here s b (.bl _) q⟩
theorem od_ne (hK : g.K = X.K) : OpD g (rNe2 X.K) mNe := by
  intro F H w x y d e z Q s b rx ry hz q
  rw [← hK]
  obtain ⟨k, e1, e2⟩ := Option.map_eq_some_iff.mp hz
  subst e2
  rcases eq_cases s rx ry e1 with ⟨h1, h2⟩ | ⟨p, r, h1, h2, h3, h4, h5⟩
  · subst h2; exact .inl ⟨h1, here s b (.bl _) q⟩
  · subst h5; exact .inr ⟨p, r, h1, h2, h3, h4, here s b (.bl _) q⟩
/-! in -/
def rInT (K : PySem.W.Frag) (ng : Bool) : R2 := fun x y H Q => ∃ d ds, Dp K H x d ∧ Dp K H y (.tuple ds) ∧ SeqAt.shaped d = true ∧ SeqAt.shaped (.tuple ds) = true ∧ Q (.bl (if ng then !(ds.any fun z => PyData.eqv z d) else ds.any fun z => PyData.eqv z d)) H
theorem op_inT (hu : X.A.units + 65 < cLine) : OpR X (compareOp .In) (rInT X.K false) := by
  intro pins s σ H x y v u Q I rx ry h
  obtain ⟨d, ds, hd, he, sd, se, q⟩ := h
  obtain ⟨as, r1⟩ := Dp.reads I d x v hd rx
  obtain ⟨bs, r2⟩ := Dp.reads I (.tuple ds) y u he ry
  exact SeqAt.in_tuple_reads r2 r1 (SeqAt.canLay_of_shaped se) (SeqAt.canLay_of_shaped sd) (room_in_shaped sd hu) ⟨.bl _, H, I, rfl, q⟩
def rIn4 (K : PySem.W.Frag) : R2 := fun x y H Q => (∃ (c : Nat) (z : Str), x = .str ⟨#[c]⟩ ∧ y = .str z ∧ Q (.bl (decide (c ∈ z.cps.toList))) H) ∨ (∃ i j, x = .str i ∧ y = .str j ∧ Q (.bl (!(Builtin.Str.occurrences j i 0 j.length 1).isEmpty)) H) ∨ rInD K x y H Q ∨ rInT K false x y H Q
theorem op_inX (hu : X.A.units + 65 < cLine) : OpR X (compareOp .In) (rIn4 X.K) := OpR.or op_in_sign (OpR.or op_in_str (OpR.or (op_inD hu) (op_inT hu)))
theorem in_cases {F : FH} {H : Hp} {x y : V} {d e : D} {b : Bool} (s : Same F H) (rx : DR g F x d) (ry : DR g F y e) (h : inB d e = some b) :
    (∃ (c : Nat) (z : Str), x = .str ⟨#[c]⟩ ∧ y = .str z ∧ b = decide (c ∈ z.cps.toList)) ∨ (∃ i j, x = .str i ∧ y = .str j ∧ b = !(Builtin.Str.occurrences j i 0 j.length 1).isEmpty) ∨
    (∃ p ps, Dp g.K H x p ∧ Dp g.K H y (.list ps) ∧ SeqAt.shaped p = true ∧ SeqAt.shaped (.list ps) = true ∧ b = ps.any fun z => PyData.eqv z p) ∨
    (∃ p ps, Dp g.K H x p ∧ Dp g.K H y (.tuple ps) ∧ SeqAt.shaped p = true ∧ SeqAt.shaped (.tuple ps) = true ∧ b = ps.any fun z => PyData.eqv z p) := by
  unfold inB at h
  split at h
  · rename_i xs ys
    cases rx; cases ry
    split at h
    · rename_i c hc
      cases h
      refine .inl ⟨c, ys, ?_, rfl, rfl⟩
      have e : xs.cps = #[c] := by rw [← Array.toList_inj]; simpa using hc
      obtain ⟨cs⟩ := xs
      rw [show cs = #[c] from e]
    · cases h; exact .inr (.inl ⟨_, _, rfl, rfl, rfl⟩)
  · obtain ⟨p, e1, h⟩ := Option.bind_eq_some_iff.mp h
    obtain ⟨q, e2, h⟩ := Option.bind_eq_some_iff.mp h
    obtain ⟨a1, a2⟩ := shp_some e1
    obtain ⟨b1, b2⟩ := shp_some e2
    split at h
    · cases h; exact .inr (.inr (.inl ⟨p, _, dp_of s rx a1, dp_of s ry b1, a2, b2, rfl⟩))
    · cases h
  · obtain ⟨p, e1, h⟩ := Option.bind_eq_some_iff.mp h
    obtain ⟨q, e2, h⟩ := Option.bind_eq_some_iff.mp h
    obtain ⟨a1, a2⟩ := shp_some e1
    obtain ⟨b1, b2⟩ := shp_some e2
    split at h
    · cases h; exact .inr (.inr (.inr ⟨p, _, dp_of s rx a1, dp_of s ry b1, a2, b2, rfl⟩))
    · cases h
  · cases h
theorem od_in (hK : g.K = X.K) : OpD g (rIn4 X.K) mIn := by
  intro F H w x y d e z Q s b rx ry hz q
  rw [← hK]
  obtain ⟨k, e1, e2⟩ := Option.map_eq_some_iff.mp hz
  subst e2
  rcases in_cases s rx ry e1 with ⟨c, z, h1, h2, h3⟩ | ⟨i, j, h1, h2, h3⟩ | ⟨p, ps, h1, h2, h3, h4, h5⟩ | ⟨p, ps, h1, h2, h3, h4, h5⟩
  · subst h3; exact .inl ⟨c, z, h1, h2, here s b (.bl _) q⟩
  · subst h3; exact .inr (.inl ⟨i, j, h1, h2, here s b (.bl _) q⟩)
  · subst h5; exact .inr (.inr (.inl ⟨p, ps, h1, h2, h3, h4, here s b (.bl _) q⟩))
  · subst h5; exact .inr (.inr (.inr ⟨p, ps, h1, h2, h3, h4, here s b (.bl _) q⟩))
/-! is None -/
theorem isNon_dec {F : FH} {x : V} {d : D} (r : DR g F x d) : isNon d = decide (x = .non) := by
  cases r <;> simp [isNon]
theorem od_is : OpD g (fun x y H Q => y = .non ∧ Q (.bl (decide (x = .non))) H) mIs := by
  intro F H w x y d e z Q s b rx ry hz q
  unfold mIs at hz
  split at hz
  · cases hz; cases ry; rw [isNon_dec rx] at q; exact ⟨rfl, here s b (.bl _) q⟩
  · cases hz
end
end Y
namespace Y
open PySem PySem.Spec PyProof.Rows L2
/-! ### subscripts -/
def mIx : D → D → Option D
  | .lst ds, .int i => atI ds i
  | .tup ds, .int i => atI ds i
  | .str z, .int i => if z.length ≤ sizeN then (atI z.cps.toList i).map fun c => .str ⟨#[c]⟩ else none
  | _, _ => none
theorem DRs.atI {g : G} {F : FH} {vs : List V} {ds : List D} {i : Int} {d : D} (r : DRs g F vs ds) (h : L2.atI ds i = some d) : ∃ v, L2.atI vs i = some v ∧ DR g F v d := by
  unfold L2.atI at h ⊢
  rw [r.length]
  cases e : ixN ds.length i with
  | none => rw [e] at h; cases h
  | some j => rw [e] at h; exact r.get h
section
variable {X : Cx} {g : G} {E : EK} {e a b c : Expr} {es : List Expr} {pos p p2 : Pos} {fa fb f : EM} {fs : AM} {lo hi : Option Expr} {x : Str} {id T : String}
theorem od_ix (hK : g.K = X.K) : OpD g (rIx X.K) mIx := by
  intro F H w x y d e z Q s b rx ry hz q
  rw [← hK]
  cases rx with
  | @lst a xs ds h r =>
    cases ry with
    | int j =>
      obtain ⟨v, e1, e2⟩ := r.atI (i := j) hz
      exact .inl ⟨_, xs, j, v, rfl, rfl, .inl (.inl (s _ _ h)), e1, here s b e2 q⟩
    | _ => cases hz
  | @tup a xs ds h r =>
    cases ry with
    | int j =>
      obtain ⟨v, e1, e2⟩ := r.atI (i := j) hz
      exact .inr (.inl ⟨_, xs, j, v, rfl, rfl, same_T s h, e1, here s b e2 q⟩)
    | _ => cases hz
  | str i =>
    cases ry with
    | int j =>
      unfold mIx at hz
      by_cases hl : i.length ≤ sizeN
      · simp only [if_pos hl] at hz
        obtain ⟨c, e1, e2⟩ := Option.map_eq_some_iff.mp hz
        subst e2
        exact .inr (.inr ⟨i, j, c, rfl, rfl, hl, e1, here s b (.str _) q⟩)
      · simp only [if_neg hl] at hz; cases hz
    | _ => cases hz
  | _ => cases hz
theorem de_ix (hK : g.K = X.K) (ha : DE X g E a fa) (hb : DE X g E b fb) (hs : PlainIx b := by exact fun _ _ => rfl) : DE X g E (.Subscript a b pos) (eBin mIx fa fb) := by
  obtain ⟨ta, pa, ra⟩ := ha.run
  obtain ⟨tb, pb, rb⟩ := hb.run
  exact ⟨_, pe_ix ix_seq pa pb hs, bin_run (od_ix hK) ra rb⟩
/-! ### slices -/
def pNone : SL → Bx → R (Option Int) := fun _ w => .ok none w
def pSome (f : EM) : SL → Bx → R (Option Int) := fun S w => (f S w).bind fun d w1 => match d with
  | .int i => .ok (some i) w1
  | _ => .bad
def cut {α : Type} (xs : List α) (lo hi : Option Int) : List α := (xs.drop (HT.sIx xs.length 0 lo)).take (HT.sIx xs.length xs.length hi - HT.sIx xs.length 0 lo)
def mSl : D → Option Int → Option Int → Option D
  | .lst ds, lo, hi => some (.lst (cut ds lo hi))
  | .tup ds, lo, hi => some (.tup (cut ds lo hi))
  | .str z, lo, hi => if z.length ≤ sizeN then some (.str (cutS z lo hi)) else none
  | _, _, _ => none
def eSl (f : EM) (l h : SL → Bx → R (Option Int)) : EM := fun S w => (f S w).bind fun d w1 => (l S w1).bind fun lo w2 => (h S w2).bind fun hi w3 => R.ofO (mSl d lo hi) w3
variable {fl fh : SL → Bx → R (Option Int)}
/-! ### calls of built-ins -/
def CallD (g : G) (r : List V → Hp → VK → Prop) (m : List D → Option D) : Prop := ∀ (F : FH) (H : Hp) (w : Bx) (vs : List V) (ds : List D) (z : D) (Q : VK), Same F H → BxOk g F w H → DRs g F vs ds → m ds = some z →
  (∀ v H' F', Ext g F H F' H' w → DR g F' v z → Q v H') → r vs H Q
def CallO (g : G) (r : List V → Hp → VK → Prop) (m : List D → Option (List D)) : Prop := ∀ (F : FH) (H : Hp) (w : Bx) (vs : List V) (ds : List D) (z : List D) (Q : VK), Same F H → BxOk g F w H → DRs g F vs ds → m ds = some z →
  (∀ p us H' F', Ext g F H F' H' w → H p = none → F'.free p → H' p = some (.lst us) → DRs g F' us z → Q (.ref p) H') → r vs H Q
def eB (m : List D → Option D) (fs : AM) : EM := fun S w => (fs S w).bind fun ds w1 => R.ofO (m ds) w1
def oB (m : List D → Option (List D)) (fs : AM) : AM := fun S w => (fs S w).bind fun ds w1 => R.ofO (m ds) w1
variable {r : List V → Hp → VK → Prop} {m : List D → Option D} {mo : List D → Option (List D)}
theorem cb_run {ta : TA} (hm : CallD g r m) (ra : ∀ σ H Q F S w, Rel g F w S σ H → PostA g F H Q (E σ) (fs S w) → ta σ H Q) : ∀ σ H Q F S w, Rel g F w S σ H → Post g F H Q (E σ) (eB m fs S w) → tCB r ta σ H Q := by
  intro σ H Q F S w R h
  refine ra σ H _ F S w R (PostG.imp (PostG.bind h) fun ds w1 _ h1 vs H1 F1 x1 r1 => ?_)
  obtain ⟨z, hz, q⟩ := post_ofO h1
  exact hm F1 H1 w1 vs ds z Q x1.sub x1.bx r1 hz fun v' H' F' x2 r2 => q v' H' F' (x1.trans x2) r2
theorem co_run {ta : TA} (hm : CallO g r mo) (ra : ∀ σ H Q F S w, Rel g F w S σ H → PostA g F H Q (E σ) (fs S w) → ta σ H Q) : ∀ σ H Q F S w, Rel g F w S σ H → PostO g F H Q (E σ) (oB mo fs S w) → tCB r ta σ H Q := by
  intro σ H Q F S w R h
  refine ra σ H _ F S w R (PostG.imp (PostG.bind h) fun ds w1 _ h1 vs H1 F1 x1 r1 => ?_)
  obtain ⟨z, hz, q⟩ := post_ofO' h1
  exact hm F1 H1 w1 vs ds z Q x1.sub x1.bx r1 hz fun p us H' F' x2 n1 n2 hp r2 => q p us H' F' (x1.trans x2) (x1.fresh n1) n2 hp r2
theorem de_callB (hc : CallR X (.builtin id) r) (hd : CallD g r m) (hm : X.mg x = none) (hv : bootBuiltins x = some (.builtin id)) (ha : DA X g E (e :: es) fs) (hg : Gl X x := by rfl) (hn : x ≠ "__name__" := by decide) (hdb : (x == ("__debug__" : Str)) = false := by decide)
    (he : starEach (e :: es) X.env = (false, eval e X.env) :: starEach es X.env := by rfl) (hpl : (backTo pos (starEach es X.env)).any (·.1) = false := by rfl) : DE X g E (.Call (.Name x p) (e :: es) [] pos) (eB m fs) := by
  obtain ⟨ta, pa, ra⟩ := ha.run
  exact ⟨_, pe_callB hc hg hm hv pa hn hdb he hpl, cb_run hd ra⟩
theorem de_callTy (hc : CallR X (.type T) r) (hd : CallD g r m) (hm : X.mg x = none) (hv : bootBuiltins x = some (.type T)) (ha : DA X g E (e :: es) fs) (hg : Gl X x := by rfl) (hn : x ≠ "__name__" := by decide) (hdb : (x == ("__debug__" : Str)) = false := by decide)
    (he : starEach (e :: es) X.env = (false, eval e X.env) :: starEach es X.env := by rfl) (hpl : (backTo pos (starEach es X.env)).any (·.1) = false := by rfl) : DE X g E (.Call (.Name x p) (e :: es) [] pos) (eB m fs) := by
  obtain ⟨ta, pa, ra⟩ := ha.run
  exact ⟨_, pe_callTy hc hg hm hv pa hn hdb he hpl, cb_run hd ra⟩
theorem do_callTy (hc : CallR X (.type T) r) (hd : CallO g r mo) (hm : X.mg x = none) (hv : bootBuiltins x = some (.type T)) (ha : DA X g E (e :: es) fs) (hg : Gl X x := by rfl) (hn : x ≠ "__name__" := by decide) (hdb : (x == ("__debug__" : Str)) = false := by decide)
    (he : starEach (e :: es) X.env = (false, eval e X.env) :: starEach es X.env := by rfl) (hpl : (backTo pos (starEach es X.env)).any (·.1) = false := by rfl) : DO X g E (.Call (.Name x p) (e :: es) [] pos) (oB mo fs) := by
  obtain ⟨ta, pa, ra⟩ := ha.run
  exact ⟨_, pe_callTy hc hg hm hv pa hn hdb he hpl, co_run hd ra⟩
theorem drs1 {F : FH} {vs : List V} {d : D} (r : DRs g F vs [d]) : ∃ v, vs = [v] ∧ DR g F v d := by
  cases r with
  | cons h r => cases r; exact ⟨_, rfl, h⟩
theorem drs2 {F : FH} {vs : List V} {d e : D} (r : DRs g F vs [d, e]) : ∃ v u, vs = [v, u] ∧ DR g F v d ∧ DR g F u e := by
  cases r with
  | cons h r => obtain ⟨u, rfl, h2⟩ := drs1 r; exact ⟨_, u, rfl, h, h2⟩
/-! len -/
def mLen : List D → Option D
  | [.lst ds] => some (.int (ds.length : Int))
  | [.tup ds] => some (.int (ds.length : Int))
  | [.str z] => if z.length ≤ sizeN then some (.int (z.length : Int)) else none
  | _ => none
theorem cd_len (hK : g.K = X.K) : CallD g (fun xs H Q => ∃ x n, xs = [x] ∧ LenV X.K x H n ∧ Q (.int (n : Int)) H) mLen := by
  intro F H w vs ds z Q s b r hz q
  rw [← hK]
  unfold mLen at hz
  split at hz
  · cases hz
    obtain ⟨v, rfl, h⟩ := drs1 r
    cases h with
    | lst h r => exact ⟨_, _, rfl, .inl ⟨_, .inl (.inl (s _ _ h)), rfl⟩, by rw [r.length]; exact here s b (.int _) q⟩
  · cases hz
    obtain ⟨v, rfl, h⟩ := drs1 r
    cases h with
    | tup h r => exact ⟨_, _, rfl, .inr ⟨_, same_T s h, rfl⟩, by rw [r.length]; exact here s b (.int _) q⟩
  · rename_i y
    obtain ⟨v, rfl, h⟩ := drs1 r
    cases h
    by_cases hl : y.length ≤ sizeN
    · simp only [if_pos hl] at hz; cases hz; exact ⟨_, _, rfl, ⟨hl, rfl⟩, here s b (.int _) q⟩
    · simp only [if_neg hl] at hz; cases hz
  · cases hz
theorem de_len (hK : g.K = X.K) (hm : X.mg "len" = none) (ha : DA X g E (e :: es) fs) (hg : Gl X "len" := by rfl)
    (he : starEach (e :: es) X.env = (false, eval e X.env) :: starEach es X.env := by rfl) (hpl : (backTo pos (starEach es X.env)).any (·.1) = false := by rfl) : DE X g E (.Call (.Name "len" p) (e :: es) [] pos) (eB mLen fs) :=
  de_callB call_len (cd_len hK) hm PySem.boot_len ha hg (by decide) (by decide) he hpl
/-! all, any -/
def blsOf : List D → Option (List Bool)
  | [] => some []
  | .bl b :: ds => (blsOf ds).map (b :: ·)
  | _ => none
theorem bls_of {F : FH} : ∀ {vs : List V} {ds : List D} {bs : List Bool}, DRs g F vs ds → blsOf ds = some bs → vs = bs.map V.bl
  | _, _, _, .nil, h => by cases h; rfl
  | _, _, bs, .cons h r, e => by
    cases h with
    | bl b =>
      rw [blsOf] at e
      obtain ⟨cs, e1, e2⟩ := Option.map_eq_some_iff.mp e
      subst e2
      rw [bls_of r e1]; rfl
    | _ => cases e
def mAll : List D → Option D
  | [.lst ds] => (blsOf ds).map fun bs => .bl (bs.all _root_.id)
  | _ => none
theorem cd_all (hK : g.K = X.K) : CallD g (rAll X.K) mAll := by
  intro F H w vs ds z Q s b r hz q
  rw [← hK]
  unfold mAll at hz
  split at hz
  · obtain ⟨bs, e1, e2⟩ := Option.map_eq_some_iff.mp hz
    subst e2
    obtain ⟨v, rfl, h⟩ := drs1 r
    cases h with
    | lst h r =>
      have e := bls_of r e1
      subst e
      exact ⟨_, bs, rfl, .inl (.inl (s _ _ h)), here s b (.bl _) q⟩
  · cases hz
theorem de_all (hK : g.K = X.K) (hcm : X.calm = true) (hm : X.mg "all" = none) (ha : DA X g E (e :: es) fs) (hg : Gl X "all" := by rfl)
    (he : starEach (e :: es) X.env = (false, eval e X.env) :: starEach es X.env := by rfl) (hpl : (backTo pos (starEach es X.env)).any (·.1) = false := by rfl) : DE X g E (.Call (.Name "all" p) (e :: es) [] pos) (eB mAll fs) :=
  de_callB (cr_all hcm) (cd_all hK) hm (by decide +kernel) ha hg (by decide) (by decide) he hpl
/-! list, tuple, str, int -/
def mList : List D → Option (List D)
  | [.lst ds] => some ds
  | [.tup ds] => some ds
  | _ => none
theorem own_new {F : FH} {H : Hp} {w : Bx} {us : List V} {z : List D} {Q : VK} (s : Same F H) (b : BxOk g F w H) (r : DRs g F us z)
    (q : ∀ p us H' F', Ext g F H F' H' w → H p = none → F'.free p → H' p = some (.lst us) → DRs g F' us z → Q (.ref p) H') : ∀ p, H p = none → Q (.ref p) (upd H p (.lst us)) := fun p np =>
  q p us _ F (Ext.own s b np) np (free_of s b np) upd_same r
theorem co_list (hK : g.K = X.K) : CallO g (fun xs H Q => ∃ p ys, xs = [.ref p] ∧ (SqL X.K H p ys ∨ SqT X.K H p ys) ∧ ∀ l, H l = none → Q (.ref l) (upd H l (.lst ys))) mList := by
  intro F H w vs ds z Q s b r hz q
  rw [← hK]
  unfold mList at hz
  split at hz
  · cases hz
    obtain ⟨v, rfl, h⟩ := drs1 r
    cases h with
    | lst h r => exact ⟨_, _, rfl, .inl (.inl (.inl (s _ _ h))), own_new s b r q⟩
  · cases hz
    obtain ⟨v, rfl, h⟩ := drs1 r
    cases h with
    | tup h r => exact ⟨_, _, rfl, .inr (same_T s h), own_new s b r q⟩
  · cases hz
theorem do_list (hK : g.K = X.K) (hm : X.mg "list" = none) (ha : DA X g E (e :: es) fs) (hg : Gl X "list" := by rfl)
    (he : starEach (e :: es) X.env = (false, eval e X.env) :: starEach es X.env := by rfl) (hpl : (backTo pos (starEach es X.env)).any (·.1) = false := by rfl) : DO X g E (.Call (.Name "list" p) (e :: es) [] pos) (oB mList fs) :=
  do_callTy call_list_of (co_list hK) hm (by decide +kernel) ha hg (by decide) (by decide) he hpl
def mStr : List D → Option D
  | [.int i] => if i.natAbs.log2 < 1920 then some (.str (toString i)) else none
  | _ => none
theorem cd_str : CallD g (fun xs H Q => ∃ i, xs = [.int i] ∧ i.natAbs.log2 < 1920 ∧ Q (.str (toString i)) H) mStr := by
  intro F H w vs ds z Q s b r hz q
  unfold mStr at hz
  split at hz
  · rename_i i
    obtain ⟨v, rfl, h⟩ := drs1 r
    cases h
    by_cases hl : i.natAbs.log2 < 1920
    · simp only [if_pos hl] at hz; cases hz; exact ⟨_, rfl, hl, here s b (.str _) q⟩
    · simp only [if_neg hl] at hz; cases hz
  · cases hz
theorem de_strI (hm : X.mg "str" = none) (ha : DA X g E (e :: es) fs) (hg : Gl X "str" := by rfl)
    (he : starEach (e :: es) X.env = (false, eval e X.env) :: starEach es X.env := by rfl) (hpl : (backTo pos (starEach es X.env)).any (·.1) = false := by rfl) : DE X g E (.Call (.Name "str" p) (e :: es) [] pos) (eB mStr fs) :=
  de_callTy call_str_int cd_str hm (by decide +kernel) ha hg (by decide) (by decide) he hpl
/-! isinstance of a built-in class -/
def tyN : D → Option String
  | .non => some "NoneType"
  | .bl _ => some "bool"
  | .int _ => some "int"
  | .str _ => some "str"
  | .lst _ => some "list"
  | .tup _ => some "tuple"
  | _ => none
def isSub (a T : String) : Bool := a == T || (a == "bool" && T == "int")
def mIsi (T : String) : D → Option D := fun d => (tyN d).map fun a => .bl (isSub a T)
def e1 (m : D → Option D) (f : EM) : EM := fun S w => (f S w).bind fun d w1 => R.ofO (m d) w1
theorem ty_of {F : FH} {H : Hp} {v : V} {d : D} {a : String} (s : Same F H) (r : DR g F v d) (h : tyN d = some a) : TyX g.K H v (.type a) := by
  cases r with
  | non => cases h; exact .base .non
  | bl b => cases h; exact .base (.bl b)
  | int b => cases h; exact .base (.int b)
  | str b => cases h; exact .base (.str b)
  | lst q r => cases h; exact .base (.lst (s _ _ q))
  | tup q r =>
    cases h
    rcases q with (q | ⟨o, q⟩) | ⟨o, its, n, q, c, _⟩
    · exact .base (.tup (s _ _ q))
    · exact .fTuple (s _ _ q)
    · exact .kTuple q c
  | _ => cases h
def kitOk (T : String) : Prop := ∀ a ∈ ["NoneType", "bool", "int", "str", "list", "tuple"], kitB a T = some (isSub a T)
theorem tyN_mem {d : D} {a : String} (h : tyN d = some a) : a ∈ ["NoneType", "bool", "int", "str", "list", "tuple"] := by
  cases d <;> simp [tyN] at h <;> subst h <;> simp
theorem kit_bool : kitOk "bool" := by unfold kitOk; decide +kernel
theorem kit_int : kitOk "int" := by unfold kitOk; decide +kernel
theorem kit_str : kitOk "str" := by unfold kitOk; decide +kernel
theorem kit_list : kitOk "list" := by unfold kitOk; decide +kernel
theorem kit_tuple : kitOk "tuple" := by unfold kitOk; decide +kernel
theorem de_isi {N : Str} {p3 : Pos} (hK : g.K = X.K) (kt : kitOk T) (hmN : X.mg N = none) (hvN : bootBuiltins N = some (.type T)) (hm : X.mg "isinstance" = none) (ha : DE X g E e f) (hgN : Gl X N := by rfl) (hg : Gl X "isinstance" := by rfl) (hnN : N ≠ "__name__" := by decide) (hdN : (N == ("__debug__" : Str)) = false := by decide)
    (he : starEach [e, .Name N p3] X.env = (false, eval e X.env) :: starEach [.Name N p3] X.env := by rfl) (he2 : starEach [.Name N p3] X.env = (false, eval (.Name N p3) X.env) :: starEach [] X.env := by rfl) (hpl : (backTo pos (starEach [.Name N p3] X.env)).any (·.1) = false := by rfl) :
    DE X g E (.Call (.Name "isinstance" p) [e, .Name N p3] [] pos) (e1 (mIsi T) f) := by
  obtain ⟨ta, pa, ra⟩ := ha.run
  refine ⟨_, pe_callB call_isi hg hm (by decide +kernel) (pa_cons pa (pa_cons (pe_bltn (v := .ty T) hgN hmN hvN rfl hnN hdN) pa_nil he2) he) (by decide) (by decide) he hpl, fun σ H Q F S w R h => ?_⟩
  refine ra σ H _ F S w R (PostG.imp (PostG.bind h) fun d w1 _ h1 v H1 F1 x1 r1 => ?_)
  obtain ⟨z, hz, q⟩ := post_ofO h1
  obtain ⟨a, e1, e2⟩ := Option.map_eq_some_iff.mp hz
  subst e2
  rw [← hK]
  exact ⟨v, .ty T, .type a, .type T, _, rfl, .ty T, ty_of x1.sub r1 e1, kit_ty (kt a (tyN_mem e1)), q _ H1 F1 x1 (.bl _)⟩
end
end Y
namespace Y
open PySem PySem.Spec PyProof.Rows L2
/-! ### calls of the program's own defs -/
/-- the promise of a def that does m -/
def spM (K : PySem.W.Frag) (cls : CT) (n : Nat) (m : List D → Bx → R D) : Sp := fun vs H Q E => vs.length = n ∧ ∃ (bx : BQ) (F : FH) (ds : List D) (w : Bx),
  Same F H ∧ BxOk ⟨K, cls, bx⟩ F w H ∧ DRs ⟨K, cls, bx⟩ F vs ds ∧ Post ⟨K, cls, bx⟩ F H Q E (m ds w)
structure Cal (P : Program) (w : World) (K : PySem.W.Frag) (mg : Str → Option Value) (base : Heap) (cls : CT) (x : Str) (k n : Nat) (m : List D → Bx → R D) : Prop where
  ex : ∃ (f : Addr) (fd : FuncData) (ps : List Str), FnOk P w K mg base (L2N.CX P w) k f fd ps (spM K cls n m) ∧ mg x = some (.ref f) ∧ PySem.W.keepIn K (.ref f) = true ∧ Binds K fd ps []
def eCall (n : Nat) (m : List D → Bx → R D) (fs : AM) : EM := fun S w => (fs S w).bind fun ds w1 => if ds.length = n then m ds w1 else .bad
section
variable {X : Cx} {g : G} {E : EK} {e e2 a b c : Expr} {es : List Expr} {pos p p2 : Pos} {fa fb f : EM} {fs : AM} {x : Str} {k n : Nat} {m : List D → Bx → R D}
theorem call_run {E : XK} {ta : TA} (hK : g.K = X.K) (ra : ∀ σ H Q F S w, Rel g F w S σ H → PostA g F H Q E (fs S w) → ta σ H Q) : ∀ σ H Q F S w, Rel g F w S σ H → Post g F H Q E (eCall n m fs S w) → tCall (spM X.K g.cls n m) [] E ta σ H Q := by
  intro σ H Q F S w R h
  refine ra σ H _ F S w R (PostG.imp (PostG.bind h) fun ds w1 _ h1 vs H1 F1 x1 r1 => ?_)
  by_cases hl : ds.length = n
  · rw [if_pos hl] at h1
    show spM X.K g.cls n m (vs ++ []) H1 Q E
    rw [List.append_nil, ← hK]
    exact ⟨by rw [r1.length]; exact hl, g.bq, F1, ds, w1, x1.sub, x1.bx, r1, Post.of x1 h1⟩
  · rw [if_neg hl] at h1; exact h1.elim
theorem de_call {E : XK} (hK : g.K = X.K) (C : Cal X.prog X.w X.K X.mg X.base g.cls x k n m) (hr : Room k X.A) (hx : Passes (L2N.CX X.prog X.w) X E) (ha : DA X g (kE E) (e :: es) fs) (hg : Gl X x := by rfl) (hdb : (x == ("__debug__" : Str)) = false := by decide)
    (he : starEach (e :: es) X.env = (false, eval e X.env) :: starEach es X.env := by rfl) (hpl : (backTo pos (starEach es X.env)).any (·.1) = false := by rfl) : DE X g (kE E) (.Call (.Name x p) (e :: es) [] pos) (eCall n m fs) := by
  obtain ⟨f, fd, ps, F, hm, hk, hb⟩ := C.ex
  obtain ⟨ta, pa, ra⟩ := ha.run
  exact ⟨_, pe_call F hr hg hm hk hb .nil hx pa hdb he hpl, call_run hK ra⟩
/-! ### -n -/
/-! ### methods of texts -/
/-! ### what is walked -/
structure Yld (g : G) (F : FH) (J : It) (ds : List D) : Prop where
  go : ∀ (i : Nat) (d : D) (F2 : FH) (H2 : Hp), FSame F F2 → Same F2 H2 → ds[i]? = some d → J.go i H2 ∧ ∀ x H3, J.yld i H2 x H3 → (H3 = H2 ∧ DR g F2 x d) ∨ ∃ T xs es, x = .ref T ∧ H2 T = none ∧ H3 = upd H2 T (.tup xs) ∧ DRs g F2 xs es ∧ d = .tup es
  stop : ∀ (F2 : FH) (H2 : Hp), FSame F F2 → Same F2 H2 → J.stop ds.length H2
structure DI (X : Cx) (g : G) (E : EK) (tg iter : Expr) (f : AM) : Prop where
  run : ∃ wi, PI X tg iter wi ∧ ∀ σ H (Rq : It → Hp → Prop) F S w, Rel g F w S σ H → PostG g F H (E σ) (fun ds w' => ∀ J H' F', Ext g F H F' H' w' → Yld g F' J ds → Rq J H') (f S w) → wi σ H Rq
variable {tg : Expr}
theorem yld_list {F : FH} {a : Addr} {xs : List V} {ds : List D} (h : F a = some (.lst xs)) (r : DRs g F xs ds) : Yld g F (Itl g.K a) ds := by
  refine ⟨fun i d F2 H2 s1 s2 hd => ?_, fun F2 H2 s1 s2 => ⟨xs, .inl (.inl (s2 _ _ (s1.fz _ _ h))), by rw [r.length]; exact Nat.le_refl _⟩⟩
  obtain ⟨v, hv, rv⟩ := r.get hd
  have hs : SqL g.K H2 a xs := .inl (.inl (s2 _ _ (s1.fz _ _ h)))
  refine ⟨⟨xs, v, hs, hv⟩, fun x H3 hy => ?_⟩
  obtain ⟨e1, e2⟩ := hy
  have e3 := e2 xs hs
  rw [hv] at e3; cases e3
  exact .inl ⟨e1, rv.mono s1⟩
theorem yld_tup {F : FH} {a : Addr} {xs : List V} {ds : List D} (h : SqT g.K F a xs) (r : DRs g F xs ds) : Yld g F (Itt g.K a) ds := by
  refine ⟨fun i d F2 H2 s1 s2 hd => ?_, fun F2 H2 s1 s2 => ⟨xs, same_T s2 (same_T s1.fz h), by rw [r.length]; exact Nat.le_refl _⟩⟩
  obtain ⟨v, hv, rv⟩ := r.get hd
  have hs : SqT g.K H2 a xs := same_T s2 (same_T s1.fz h)
  refine ⟨⟨xs, v, hs, hv⟩, fun x H3 hy => ?_⟩
  obtain ⟨e1, e2⟩ := hy
  have e3 := e2 xs hs
  rw [hv] at e3; cases e3
  exact .inl ⟨e1, rv.mono s1⟩
def signs (z : Str) : List D := z.cps.toList.map fun c => .str ⟨#[c]⟩
theorem yld_str {F : FH} (z : Str) : Yld g F (Its z) (signs z) := by
  refine ⟨fun i d F2 H2 s1 s2 hd => ?_, fun F2 H2 s1 s2 => ?_⟩
  · unfold signs at hd
    rw [List.getElem?_map] at hd
    obtain ⟨c, hc, rfl⟩ := Option.map_eq_some_iff.mp hd
    have hc' : z.cps[i]? = some c := by simpa using hc
    refine ⟨(Array.getElem?_eq_some_iff.mp hc').1, fun x H3 hy => ?_⟩
    obtain ⟨e1, c2, e2, e3⟩ := hy
    rw [hc'] at e2; cases e2
    subst e3
    exact .inl ⟨e1, .str _⟩
  · show z.cps.size ≤ (signs z).length
    simp [signs]
/-- the items of a list, a tuple, a text -/
def itemsOf : D → Option (List D)
  | .lst ds => some ds
  | .tup ds => some ds
  | .str z => some (signs z)
  | _ => none
def iAny (f : EM) : AM := fun S w => (f S w).bind fun d w1 => R.ofO (itemsOf d) w1
theorem di_any (hK : g.K = X.K) (ha : DE X g E a fa) : DI X g E tg a (iAny fa) := by
  obtain ⟨ta, pa, ra⟩ := ha.run
  refine ⟨fun σ H Rq => ta σ H fun x H1 => (∃ a, x = .ref a ∧ (∃ xs, SqL X.K H1 a xs) ∧ Rq (Itl X.K a) H1) ∨ (∃ a, x = .ref a ∧ (∃ xs, SqT X.K H1 a xs) ∧ Rq (Itt X.K a) H1) ∨ (∃ z, x = .str z ∧ Rq (Its z) H1), ⟨fun pins s σ H Rq I h => ?_⟩, fun σ H Rq F S w R h => ?_⟩
  · refine thn (pa.run pins s σ H _ I h) fun v s1 ⟨x, H1, I1, r1, q1⟩ => ?_
    rcases q1 with ⟨a, e, ⟨xs, hq⟩, q⟩ | ⟨a, e, ⟨xs, hq⟩, q⟩ | ⟨z, e, q⟩
    · subst e; cases r1
      obtain ⟨_, _, p, _⟩ := I1.list hq
      exact wpAny_pyIter_list p.isList (pi_one (tk := s1.toks) I1 _ (turn_list a _) ⟨_, Heap.get?_push_size _ rfl, rfl, rfl⟩ q)
    · subst e; cases r1
      obtain ⟨_, _, p, _⟩ := I1.tuple hq
      exact wpAny_pyIter_tuple p (pi_one (tk := s1.toks) I1 _ (turn_tuple a _) ⟨_, Heap.get?_push_size _ rfl, rfl, rfl⟩ q)
    · subst e
      obtain ⟨t, rfl⟩ := r1
      cases ha : z.cps.all (· < 128)
      · exact wpAny_pyIter_wide ha (pi_one (tk := s1.toks) I1 _ (turn_str _ z t "str_iterator" (.inr rfl)) ⟨_, Heap.get?_push_size _ rfl, rfl, rfl⟩ q)
      · exact wpAny_pyIter_ascii ha (pi_one (tk := s1.toks) I1 _ (turn_str _ z t "str_ascii_iterator" (.inl rfl)) ⟨_, Heap.get?_push_size _ rfl, rfl, rfl⟩ q)
  · refine ra σ H _ F S w R (PostG.imp (PostG.bind h) fun d w1 _ h1 v H1 F1 x1 r1 => ?_)
    obtain ⟨ds, hz, q⟩ := post_ofO' h1
    rw [← hK]
    cases r1 with
    | lst h r => cases hz; exact .inl ⟨_, rfl, ⟨_, .inl (.inl (x1.sub _ _ h))⟩, q _ H1 F1 x1 (yld_list h r)⟩
    | tup h r => cases hz; exact .inr (.inl ⟨_, rfl, ⟨_, same_T x1.sub h⟩, q _ H1 F1 x1 (yld_tup h r)⟩)
    | str z => cases hz; exact .inr (.inr ⟨_, rfl, q _ H1 F1 x1 (yld_str z)⟩)
    | _ => cases hz
/-- range -/
def upFrom (lo : Int) (n : Nat) : List D := (List.range n).map fun (i : Nat) => D.int (lo + (i : Int))
theorem yld_range {F : FH} (lo : Int) (n : Nat) : Yld g F (Itr lo n) (upFrom lo n) := by
  refine ⟨fun i d F2 H2 s1 s2 hd => ?_, fun F2 H2 s1 s2 => ?_⟩
  · unfold upFrom at hd
    rw [List.getElem?_map] at hd
    obtain ⟨j, hj, rfl⟩ := Option.map_eq_some_iff.mp hd
    obtain ⟨h1, h2⟩ := List.getElem?_eq_some_iff.mp hj
    have : i < n := by simpa using h1
    have e : j = i := by rw [List.getElem_range] at h2; exact h2.symm
    subst e
    refine ⟨this, fun x H3 hy => ?_⟩
    obtain ⟨e1, e2⟩ := hy
    subst e2
    exact .inl ⟨e1, .int _⟩
  · show n ≤ (upFrom lo n).length
    simp [upFrom]
def rngOf : List D → Option (List D)
  | [.int j] => if -(2 ^ 62) ≤ j ∧ j < 2 ^ 62 then some (upFrom 0 j.toNat) else none
  | _ => none
def iBy (m : List D → Option (List D)) (fs : AM) : AM := fun S w => (fs S w).bind fun ds w1 => R.ofO (m ds) w1
theorem di_range (hm : X.mg "range" = none) (ha : DA X g E [a] fs) (hg : Gl X "range" := by rfl) (hs : starEach [a] X.env = [(false, eval a X.env)] := by rfl) : DI X g E tg (.Call (.Name "range" p) [a] [] pos) (iBy rngOf fs) := by
  obtain ⟨ta, pa, ra⟩ := ha.run
  refine ⟨_, pi_range1 hg hm pa hs, fun σ H Rq F S w R h => ?_⟩
  refine ra σ H _ F S w R (PostG.imp (PostG.bind h) fun ds w1 _ h1 vs H1 F1 x1 r1 => ?_)
  obtain ⟨zs, hz, q⟩ := post_ofO' h1
  unfold rngOf at hz
  split at hz
  · split at hz
    · rename_i hl
      cases hz
      obtain ⟨v, rfl, h⟩ := drs1 r1
      cases h
      exact ⟨_, rfl, hl.1, hl.2, q _ H1 F1 x1 (yld_range 0 _)⟩
    · cases hz
  · cases hz
/-- zip of two lists, of two tuples -/
def zipD (ds es : List D) : List D := (ds.zip es).map fun p => .tup [p.1, p.2]
def zipOf : List D → Option (List D)
  | [.lst ds, .lst es] => some (zipD ds es)
  | [.tup ds, .tup es] => some (zipD ds es)
  | _ => none
theorem zip_get {ds es : List D} {i : Nat} {z : D} (h : (zipD ds es)[i]? = some z) : ∃ d e, ds[i]? = some d ∧ es[i]? = some e ∧ z = .tup [d, e] := by
  unfold zipD at h
  rw [List.getElem?_map] at h
  obtain ⟨q, hq, rfl⟩ := Option.map_eq_some_iff.mp h
  obtain ⟨d, e⟩ := q
  have := List.getElem?_zip_eq_some.mp hq
  exact ⟨d, e, this.1, this.2, rfl⟩
theorem yld_zip {F : FH} {a b : Addr} {xs ys : List V} {ds es : List D} (h : F a = some (.lst xs)) (r : DRs g F xs ds) (h2 : F b = some (.lst ys)) (r2 : DRs g F ys es) : Yld g F (Itz g.K a b) (zipD ds es) := by
  refine ⟨fun i z F2 H2 s1 s2 hd => ?_, fun F2 H2 s1 s2 => ⟨xs, ys, .inl (.inl (s2 _ _ (s1.fz _ _ h))), .inl (.inl (s2 _ _ (s1.fz _ _ h2))), ?_⟩⟩
  · obtain ⟨d, e, hd', he, rfl⟩ := zip_get hd
    obtain ⟨v, hv, rv⟩ := r.get hd'
    obtain ⟨u, hu, ru⟩ := r2.get he
    have hs : SqL g.K H2 a xs := .inl (.inl (s2 _ _ (s1.fz _ _ h)))
    have hs2 : SqL g.K H2 b ys := .inl (.inl (s2 _ _ (s1.fz _ _ h2)))
    refine ⟨⟨xs, ys, v, u, hs, hs2, hv, hu⟩, fun x H3 hy => ?_⟩
    obtain ⟨T, x1, x2, e1, n, e2, f1, f2⟩ := hy
    have e3 := f1 xs hs; rw [hv] at e3; cases e3
    have e4 := f2 ys hs2; rw [hu] at e4; cases e4
    exact .inr ⟨T, _, _, e1, n, e2, .cons (rv.mono s1) (.cons (ru.mono s1) .nil), rfl⟩
  · rw [r.length, r2.length]
    simp only [zipD, List.length_map, List.length_zip]
    omega
theorem yld_zipT {F : FH} {a b : Addr} {xs ys : List V} {ds es : List D} (h : SqT g.K F a xs) (r : DRs g F xs ds) (h2 : SqT g.K F b ys) (r2 : DRs g F ys es) : Yld g F (RZ.ItzT g.K a b) (zipD ds es) := by
  refine ⟨fun i z F2 H2 s1 s2 hd => ?_, fun F2 H2 s1 s2 => ⟨xs, ys, same_T s2 (same_T s1.fz h), same_T s2 (same_T s1.fz h2), ?_⟩⟩
  · obtain ⟨d, e, hd', he, rfl⟩ := zip_get hd
    obtain ⟨v, hv, rv⟩ := r.get hd'
    obtain ⟨u, hu, ru⟩ := r2.get he
    have hs : SqT g.K H2 a xs := same_T s2 (same_T s1.fz h)
    have hs2 : SqT g.K H2 b ys := same_T s2 (same_T s1.fz h2)
    refine ⟨⟨xs, ys, v, u, hs, hs2, hv, hu⟩, fun x H3 hy => ?_⟩
    obtain ⟨T, x1, x2, e1, n, e2, f1, f2⟩ := hy
    have e3 := f1 xs hs; rw [hv] at e3; cases e3
    have e4 := f2 ys hs2; rw [hu] at e4; cases e4
    exact .inr ⟨T, _, _, e1, n, e2, .cons (rv.mono s1) (.cons (ru.mono s1) .nil), rfl⟩
  · rw [r.length, r2.length]
    simp only [zipD, List.length_map, List.length_zip]
    omega
theorem di_zip {elts : List Expr} {kk : Nat} {tpos : Pos} (hK : g.K = X.K) (hm : X.mg "zip" = none) (ha : DA X g E [a, b] fs) (hg : Gl X "zip" := by rfl)
    (hs : starEach [a, b] X.env = (false, eval a X.env) :: starEach [b] X.env := by rfl) (hpl : (backTo pos (starEach [b] X.env)).any (·.1) = false := by rfl) : DI X g E (.Tuple elts kk tpos) (.Call (.Name "zip" p) [a, b] [] pos) (iBy zipOf fs) := by
  obtain ⟨ta, pa, ra⟩ := ha.run
  refine ⟨_, RZ.pi_zipA hg hm pa hs hpl, fun σ H Rq F S w R h => ?_⟩
  refine ra σ H _ F S w R (PostG.imp (PostG.bind h) fun ds w1 _ h1 vs H1 F1 x1 r1 => ?_)
  obtain ⟨zs, hz, q⟩ := post_ofO' h1
  rw [← hK]
  unfold zipOf at hz
  split at hz
  · cases hz
    obtain ⟨v, u, rfl, h, h'⟩ := drs2 r1
    cases h with
    | lst h r =>
      cases h' with
      | lst h2 r2 => exact ⟨_, _, _, _, rfl, .inl ⟨.inl (.inl (x1.sub _ _ h)), .inl (.inl (x1.sub _ _ h2)), q _ H1 F1 x1 (yld_zip h r h2 r2)⟩⟩
  · cases hz
    obtain ⟨v, u, rfl, h, h'⟩ := drs2 r1
    cases h with
    | tup h r =>
      cases h' with
      | tup h2 r2 => exact ⟨_, _, _, _, rfl, .inr ⟨same_T x1.sub h, same_T x1.sub h2, q _ H1 F1 x1 (yld_zipT h r h2 r2)⟩⟩
  · cases hz
/-- enumerate of a list -/
def numbered (ds : List D) : List D := (List.range ds.length).zip ds |>.map fun p => .tup [.int (p.1 : Int), p.2]
theorem num_get {ds : List D} {i : Nat} {z : D} (h : (numbered ds)[i]? = some z) : ∃ d, ds[i]? = some d ∧ z = .tup [.int (i : Int), d] := by
  unfold numbered at h
  rw [List.getElem?_map] at h
  obtain ⟨q, hq, rfl⟩ := Option.map_eq_some_iff.mp h
  obtain ⟨j, e⟩ := q
  have := List.getElem?_zip_eq_some.mp hq
  obtain ⟨h1, h2⟩ := List.getElem?_eq_some_iff.mp this.1
  rw [List.getElem_range] at h2
  have h2 : i = j := h2
  subst h2
  exact ⟨e, this.2, rfl⟩
theorem num_len (ds : List D) : (numbered ds).length = ds.length := by simp [numbered]
end
end Y
namespace Y
open PySem PySem.Spec PyProof.Rows L2
/-! ### the readings by meaning: one for all states -/
section
variable {X : Cx} {g : G} {E : EK} {e a b c : Expr} {es : List Expr} {pos p p2 : Pos} {fa fb f : EM} {fs : AM}
def tSem (g : G) (E : EK) (f : EM) : TE := fun σ H Q => ∃ F S w, Rel g F w S σ H ∧ Post g F H Q (E σ) (f S w)
def tSemT (g : G) (E : EK) (f : TM) : TT := fun σ H Q => ∃ F S w, Rel g F w S σ H ∧ PostT g F H Q (E σ) (f S w)
theorem DE.pe (h : DE X g E e f) : PE X e (tSem g E f) := by
  obtain ⟨t, p, r⟩ := h.run
  exact ⟨fun pins s σ H Q I ⟨F, S, w, R, q⟩ => p.run pins s σ H Q I (r σ H Q F S w R q)⟩
theorem DT.pt {f : TM} (h : DT X g E e f) : PT X e (tSemT g E f) := by
  obtain ⟨t, p, r⟩ := h.run
  exact ⟨fun pins s σ H Q I ⟨F, S, w, R, q⟩ => p.run pins s σ H Q I (r σ H Q F S w R q)⟩

/-! ### slots set, wiped -/
theorem Rel.set {F : FH} {H : Hp} {w : Bx} {S : SL} {σ : L2.St} {v : V} {d : D} (R : Rel g F w S σ H) (i : Nat) (r : DR g F v d) : Rel g F w (S.set i (some (.dat d))) (σ.set i (some v)) H := by
  refine ⟨R.sub, R.bx, by rw [List.length_set, List.length_set]; exact R.len, fun j s hs => ?_, fun j k ds ds2 u h1 h2 h3 h4 => ?_⟩
  · rw [List.getElem?_set] at hs ⊢
    by_cases e : i = j
    · rw [if_pos e] at hs ⊢
      by_cases hl : j < S.length
      · rw [if_pos (e ▸ hl)] at hs; cases hs
        rw [if_pos (by rw [e, ← R.len]; exact hl)]
        exact ⟨v, rfl, r⟩
      · rw [if_neg (e ▸ hl)] at hs; cases hs
    · rw [if_neg e] at hs ⊢; exact R.sl j s hs
  · rw [List.getElem?_set] at h1 h2 h3 h4
    by_cases e : i = j
    · rw [if_pos e] at h1; split at h1 <;> cases h1
    · by_cases e2 : i = k
      · rw [if_pos e2] at h2; split at h2 <;> cases h2
      · rw [if_neg e] at h1 h3; rw [if_neg e2] at h2 h4; exact R.inj j k ds ds2 u h1 h2 h3 h4
def wipeS (S : SL) : List Nat → SL
  | [] => S
  | v :: vs => (wipeS S vs).set v none
theorem wipe_get (σ : L2.St) (j : Nat) : ∀ vs : List Nat, (wipe σ vs)[j]? = if j ∈ vs then (if j < σ.length then some none else none) else σ[j]?
  | [] => by simp [wipe]
  | v :: vs => by
    unfold wipe
    rw [List.getElem?_set, wipe_length, wipe_get σ j vs]
    by_cases e : v = j
    · subst e; simp
    · have : (j ∈ v :: vs) ↔ j ∈ vs := by simp [Ne.symm e]
      rw [if_neg e]
      by_cases h : j ∈ vs
      · rw [if_pos h, if_pos (this.mpr h)]
      · rw [if_neg h, if_neg (fun z => h (this.mp z))]
theorem wipeS_length (S : SL) : ∀ vs : List Nat, (wipeS S vs).length = S.length
  | [] => rfl
  | v :: vs => by unfold wipeS; rw [List.length_set, wipeS_length S vs]
theorem wipeS_get (σ : SL) (j : Nat) : ∀ vs : List Nat, (wipeS σ vs)[j]? = if j ∈ vs then (if j < σ.length then some none else none) else σ[j]?
  | [] => by simp [wipeS]
  | v :: vs => by
    unfold wipeS
    rw [List.getElem?_set, wipeS_length, wipeS_get σ j vs]
    by_cases e : v = j
    · subst e; simp
    · have : (j ∈ v :: vs) ↔ j ∈ vs := by simp [Ne.symm e]
      rw [if_neg e]
      by_cases h : j ∈ vs
      · rw [if_pos h, if_pos (this.mpr h)]
      · rw [if_neg h, if_neg (fun z => h (this.mp z))]
theorem wipe_set {σ : L2.St} {i : Nat} {x : Option V} {vs : List Nat} (h : i ∈ vs) : wipe (σ.set i x) vs = wipe σ vs := by
  apply List.ext_getElem?
  intro j
  rw [wipe_get, wipe_get, List.length_set, List.getElem?_set]
  by_cases hj : j ∈ vs
  · rw [if_pos hj, if_pos hj]
  · rw [if_neg hj, if_neg hj, if_neg (fun (e : i = j) => hj (e ▸ h))]
theorem Rel.wipe {F : FH} {H : Hp} {w : Bx} {S : SL} {σ : L2.St} (R : Rel g F w S σ H) (vs : List Nat) : Rel g F w (wipeS S vs) (L2.wipe σ vs) H := by
  refine ⟨R.sub, R.bx, by rw [wipeS_length, wipe_length]; exact R.len, fun j s hs => ?_, fun j k ds ds2 u h1 h2 h3 h4 => ?_⟩
  · rw [wipeS_get] at hs
    rw [wipe_get]
    by_cases hj : j ∈ vs
    · rw [if_pos hj] at hs; split at hs <;> cases hs
    · rw [if_neg hj] at hs ⊢; exact R.sl j s hs
  · rw [wipeS_get] at h1 h2
    rw [wipe_get] at h3 h4
    by_cases hj : j ∈ vs
    · rw [if_pos hj] at h1; split at h1 <;> cases h1
    · by_cases hk : k ∈ vs
      · rw [if_pos hk] at h2; split at h2 <;> cases h2
      · rw [if_neg hj] at h1 h3; rw [if_neg hk] at h2 h4; exact R.inj j k ds ds2 u h1 h2 h3 h4

/-! ### targets -/
abbrev GM := D → SL → Option SL
abbrev GMs := List D → SL → Option SL
/-- is: the slots that are set -/
structure DG (X : Cx) (g : G) (tg : Expr) (ns : List Nat) (m : GM) : Prop where
  run : ∃ t, PG X tg t ∧ ∀ v σ H Q F S w d S', Rel g F w S σ H → DR g F v d → m d S = some S' → (∀ σ', Rel g F w S' σ' H → (∀ vs, (∀ i ∈ ns, i ∈ vs) → L2.wipe σ' vs = L2.wipe σ vs) → Q σ' H) → t v σ H Q
  own : ∀ d S S' (i : Nat) ds, m d S = some S' → S'[i]? = some (some (.own ds)) → S[i]? = some (some (.own ds)) ∧ i ∉ ns
structure DGs (X : Cx) (g : G) (tgs : List Expr) (ns : List Nat) (m : GMs) : Prop where
  run : ∃ t, PGs X tgs t ∧ ∀ vs σ H Q F S w ds S', Rel g F w S σ H → DRs g F vs ds → m ds S = some S' → (∀ σ', Rel g F w S' σ' H → (∀ us, (∀ i ∈ ns, i ∈ us) → L2.wipe σ' us = L2.wipe σ us) → Q σ' H) → t vs σ H Q
  own : ∀ es S S' (i : Nat) ds, m es S = some S' → S'[i]? = some (some (.own ds)) → S[i]? = some (some (.own ds)) ∧ i ∉ ns
def gSet (i : Nat) : GM := fun d S => some (S.set i (some (.dat d)))
def gsNil : GMs := fun ds S => match ds with
  | [] => some S
  | _ => none
def gsCons (m : GM) (k : GMs) : GMs := fun ds S => match ds with
  | d :: r => (m d S).bind (k r)
  | [] => none
def gTupM (k : GMs) : GM := fun d S => match d with
  | .tup ds => k ds S
  | _ => none
theorem dg_name (i : Nat) {x : Str} (hN : X.N.Nodup) (hi : X.N[i]? = some x := by rfl) (hx : Loc X.env.scope x := by first | exact Or.inl rfl | exact Or.inr rfl) (hf : X.fn x = true ∨ X.env.scope.names.lookup x = some .local := by first | exact .inl rfl | exact .inr rfl) : DG X g (.Name x pos) [i] (gSet i) := by
  refine ⟨⟨_, pg_name hN hi hx hf, fun v σ H Q F S w d S' R r hm q => ?_⟩, fun d S S' j ds hm hj => ?_⟩
  · cases hm
    exact q _ (R.set i r) fun vs hv => wipe_set (hv i (List.mem_singleton.mpr rfl))
  · cases hm
    rw [List.getElem?_set] at hj
    by_cases e : i = j
    · rw [if_pos e] at hj; split at hj <;> cases hj
    · rw [if_neg e] at hj; exact ⟨hj, fun z => e (List.mem_singleton.mp z).symm⟩
theorem dgs_nil : DGs X g [] [] gsNil := by
  refine ⟨⟨_, pgs_nil, fun vs σ H Q F S w ds S' R r hm q => ?_⟩, fun es S S' i ds hm hj => ?_⟩
  · cases r with
    | nil => cases hm; exact ⟨rfl, q σ R fun _ _ => rfl⟩
    | cons _ _ => cases hm
  · cases es with
    | nil => cases hm; exact ⟨hj, fun z => nomatch z⟩
    | cons _ _ => cases hm
theorem dgs_cons {tgs : List Expr} {ns ns2 : List Nat} {m : GM} {k : GMs} (h1 : DG X g e ns m) (h2 : DGs X g tgs ns2 k) (hq : ∀ (t : TG) (u : TGs), PG X e t → PGs X tgs u → PGs X (e :: tgs) (gCons t u) := by exact fun _ _ a b => pgs_cons a b) : DGs X g (e :: tgs) (ns ++ ns2) (gsCons m k) := by
  obtain ⟨t, p, r⟩ := h1.run
  obtain ⟨t2, p2, r2⟩ := h2.run
  refine ⟨⟨_, hq t t2 p p2, fun vs σ H Q F S w ds S' R rr hm q => ?_⟩, fun es S S' i ds hm hj => ?_⟩
  · cases rr with
    | nil => cases hm
    | cons rd rs =>
      obtain ⟨S1, e1, e2⟩ := Option.bind_eq_some_iff.mp hm
      refine ⟨_, _, rfl, r _ σ H _ F S w _ S1 R rd e1 fun σ1 R1 w1 => ?_⟩
      refine r2 _ σ1 H _ F S1 w _ S' R1 rs e2 fun σ2 R2 w2 => q σ2 R2 fun us hu => ?_
      rw [w2 us fun i hi => hu i (List.mem_append_right _ hi), w1 us fun i hi => hu i (List.mem_append_left _ hi)]
  · cases es with
    | nil => cases hm
    | cons d rs =>
      obtain ⟨S1, e1, e2⟩ := Option.bind_eq_some_iff.mp hm
      obtain ⟨a1, a2⟩ := h2.own _ _ _ i ds e2 hj
      obtain ⟨b1, b2⟩ := h1.own _ _ _ i ds e1 a1
      exact ⟨b1, fun z => (List.mem_append.mp z).elim b2 a2⟩
theorem dg_tup {tgs : List Expr} {kk : Nat} {ns : List Nat} {k : GMs} {n : Nat} (hK : g.K = X.K) (h : DGs X g tgs ns k) (hq : ∀ u : TGs, PGs X tgs u → PG X (.Tuple tgs kk pos) (gTup X.K n u)) (hn : ∀ ds S S', k ds S = some S' → ds.length = n) : DG X g (.Tuple tgs kk pos) ns (gTupM k) := by
  obtain ⟨t, p, r⟩ := h.run
  refine ⟨⟨_, hq t p, fun v σ H Q F S w d S' R rd hm q => ?_⟩, fun d S S' i ds hm hj => ?_⟩
  · rw [← hK]
    cases rd with
    | tup hs rs => exact ⟨_, _, rfl, same_T R.sub hs, by rw [rs.length]; exact hn _ _ _ hm, r _ σ H _ F S w _ S' R rs hm q⟩
    | _ => cases hm
  · cases d with
    | tup es => exact h.own es S S' i ds hm hj
    | _ => cases hm
theorem gs_len0 : ∀ ds S S', gsNil ds S = some S' → ds.length = 0 := fun ds S S' h => by
  cases ds with
  | nil => rfl
  | cons _ _ => cases h
theorem gs_len {m : GM} {k : GMs} {n : Nat} (h : ∀ ds S S', k ds S = some S' → ds.length = n) : ∀ ds S S', gsCons m k ds S = some S' → ds.length = n + 1 := fun ds S S' hm => by
  cases ds with
  | nil => cases hm
  | cons d r =>
    obtain ⟨S1, _, e2⟩ := Option.bind_eq_some_iff.mp hm
    rw [List.length_cons, h _ _ _ e2]
def tSemG (g : G) (ns : List Nat) (m : GM) : TG := fun v σ H Q => ∃ F S w d S', Rel g F w S σ H ∧ DR g F v d ∧ m d S = some S' ∧ ∀ σ', Rel g F w S' σ' H → (∀ vs, (∀ i ∈ ns, i ∈ vs) → L2.wipe σ' vs = L2.wipe σ vs) → Q σ' H
theorem DG.pg {tg : Expr} {ns : List Nat} {m : GM} (h : DG X g tg ns m) : PG X tg (tSemG g ns m) := by
  obtain ⟨t, p, r⟩ := h.run
  refine ⟨fun pins s σ H v u Q I rv ⟨F, S, w, d, S', R, rd, hm, q⟩ => ?_⟩
  exact p.run pins s σ H v u Q I rv (r v σ H Q F S w d S' R rd hm q)

/-! ### list comprehensions, one clause -/
def R.nx {α : Type} : R α → R α
  | .ok a w => .ok a w
  | _ => .bad
def lcLoop (gm : GM) (tm : TM) (em : EM) (S0 : SL) : List D → Bx → R (List D)
  | [], w => .ok [] w
  | d :: ds, w => match gm d S0 with
    | none => .bad
    | some S1 => (tm S1 w).nx.bind fun b w1 => if b then (em S1 w1).nx.bind fun y w2 => (lcLoop gm tm em S0 ds w2).bind fun ys w3 => .ok (y :: ys) w3 else lcLoop gm tm em S0 ds w1
def oLc (fi : AM) (gm : GM) (tm : TM) (em : EM) (vs : List Nat) : AM := fun S w => (fi S w).bind fun ds w1 => if ds.length ≤ sizeN then lcLoop gm tm em (wipeS S vs) ds w1 else .bad
def tYesM : TM := fun _ w => .ok true w
structure DTs (X : Cx) (g : G) (E : EK) (ifs : List Expr) (f : TM) : Prop where
  run : ∃ t, PTs X ifs t ∧ ∀ σ H Q F S w, Rel g F w S σ H → PostT g F H Q (E σ) (f S w) → t σ H Q
theorem dts_nil : DTs X g E [] tYesM := ⟨_, pts_nil, fun σ H Q F S w R h => h H F R.ex⟩
theorem DTs.pts {ifs : List Expr} {f : TM} (h : DTs X g E ifs f) : PTs X ifs (tSemT g E f) := by
  obtain ⟨t, p, r⟩ := h.run
  exact ⟨fun pins s σ H Q I ⟨F, S, w, R, q⟩ => p.run pins s σ H Q I (r σ H Q F S w R q)⟩
/-- what may be written anew -/
def Mut (u : HO) : Prop := (∃ vs, u = .lst vs) ∨ (∃ vs, u = .dK vs) ∨ ∃ C d vs, u = .ins C d vs
theorem Mut.ne {u : HO} (m : Mut u) (h1 : ∀ vs, u ≠ .lst vs) (h2 : ∀ vs, u ≠ .dK vs) (h3 : ∀ C d vs, u ≠ .ins C d vs) : False := by
  rcases m with ⟨vs, z⟩ | ⟨vs, z⟩ | ⟨C, d, vs, z⟩
  · exact h1 vs z
  · exact h2 vs z
  · exact h3 C d vs z
theorem Ext.mut {F F' : FH} {H H' : Hp} {w : Bx} {q : Addr} {o u0 : HO} (x : Ext g F H F' H' w) (n : H q = none) (n2 : F'.free q) (nb : q ≠ g.bx) (hq : H' q = some u0) (hm : Mut u0) : Ext g F H F' (upd H' q o) w := by
  refine ⟨x.ff, fun a u na nc nt h => ?_, fun a h => x.dom a (upd_dom h), x.new, x.nad, fun a u h => ?_, x.bx.heap (by rw [upd_ne nb.symm]) (fun i a h => by rw [upd_ne (show a ≠ q from fun z => n2.2 i (z ▸ h))]) (fun a u h1 h2 h3 h => ?_), fun a od u h => by rw [upd_ne (ne_of_none h n)]; exact x.frz a od u h⟩
  · rw [upd_ne (ne_of_none h n)]; exact x.hh a u na nc nt h
  · rw [upd_ne (ne_of_none h n2.1)]; exact x.sub a u h
  · by_cases e : a = q
    · rw [e, hq] at h; cases h; exact (hm.ne h1 h2 h3).elim
    · rw [upd_ne e]; exact h
theorem nx_post {α : Type} {F : FH} {H : Hp} {Q Q2 : α → Bx → Prop} {r : R α} {E1 E0 : XK} (h : PostG g F H E1 Q r.nx) (i : ∀ a w, Q a w → Q2 a w) : PostG g F H E0 Q2 r := by
  cases r with
  | ok a w => exact i a w h
  | err c fs w => exact h.elim
  | bad => exact h
theorem not_box {F : FH} {H : Hp} {w : Bx} {q : Addr} (b : BxOk g F w H) (n : H q = none) : q ≠ g.bx := fun e => by
  obtain ⟨c, h, _⟩ := b.at_
  rw [e, h] at n; cases n
theorem lc_run {wi : TI} {fi : AM} {gm : GM} {tm : TM} {em : EM} {ns vs : List Nat} (hn : ∀ i ∈ ns, i ∈ vs)
    (ri : ∀ σ H (Rq : It → Hp → Prop) F S w, Rel g F w S σ H → PostG g F H (E σ) (fun ds w' => ∀ J H' F', Ext g F H F' H' w' → Yld g F' J ds → Rq J H') (fi S w) → wi σ H Rq) :
    ∀ σ H Q F S w, Rel g F w S σ H → PostO g F H Q (E σ) (oLc fi gm tm em vs S w) → tLc wi (tSemG g ns gm) (tSemT g (kE E0) tm) (tSem g (kE E0) em) vs σ H Q := by
  intro σ H Q F S w R h
  refine ri σ H _ F S w R (PostG.imp (PostG.bind h) fun ds w1 _ h1 J H1 F1 x1 yl D nD => ?_)
  by_cases hl : ds.length ≤ sizeN
  · rw [if_pos hl] at h1
    have nDb : D ≠ g.bx := not_box x1.bx nD
    refine ⟨fun i m H2 => ∃ F2 w2 acc ys, Ext g F1 H1 F2 H2 w2 ∧ F2.free D ∧ H2 D = some (.lst acc) ∧ DRs g F2 acc ys ∧ ys.length ≤ i ∧ i + m = ds.length ∧
      PostG g F H (E σ) (fun zs w' => ∀ p vs H' F', Ext g F H F' H' w' → H p = none → F'.free p → H' p = some (.lst vs) → DRs g F' vs (ys ++ zs) → Q (.ref p) H') (lcLoop gm tm em (wipeS S vs) (ds.drop i) w2),
      ⟨ds.length, F1, w1, [], [], Ext.own x1.sub x1.bx nD, free_of x1.sub x1.bx nD, upd_same, .nil, Nat.zero_le _, by omega, h1⟩, fun i m H2 hW => ?_⟩
    obtain ⟨F2, w2, acc, ys, x2, nF2, hD, rys, hy, him, hp⟩ := hW
    cases hd : ds[i]? with
    | none =>
      have hle : ds.length ≤ i := List.getElem?_eq_none_iff.mp hd
      have hie : i = ds.length := by omega
      refine .inl ⟨hie ▸ yl.stop F2 H2 x2.ff x2.sub, ?_⟩
      rw [List.drop_eq_nil_of_le hle] at hp
      have hp : ∀ p vs H' F', Ext g F H F' H' w2 → H p = none → F'.free p → H' p = some (.lst vs) → DRs g F' vs (ys ++ []) → Q (.ref p) H' := hp
      rw [List.append_nil] at hp
      exact hp D acc H2 F2 (x1.trans x2) (x1.fresh nD) nF2 hD rys
    | some d =>
      obtain ⟨hlt, hde⟩ := List.getElem?_eq_some_iff.mp hd
      obtain ⟨hgo, hyl⟩ := yl.go i d F2 H2 x2.ff x2.sub hd
      rw [List.drop_eq_getElem_cons hlt, hde] at hp
      refine .inr ⟨hgo, fun H3 => ∃ F2 w2 acc ys, Ext g F1 H1 F2 H3 w2 ∧ F2.free D ∧ H3 D = some (.lst acc) ∧ DRs g F2 acc ys ∧ ys.length ≤ i + 1 ∧
        PostG g F H (E σ) (fun zs w' => ∀ p vs H' F', Ext g F H F' H' w' → H p = none → F'.free p → H' p = some (.lst vs) → DRs g F' vs (ys ++ zs) → Q (.ref p) H') (lcLoop gm tm em (wipeS S vs) (ds.drop (i + 1)) w2), fun H' hN => ?_, fun x H3 hx => ?_⟩
      · obtain ⟨F', w', acc', ys', b1, b2, b3, b4, b5, b6⟩ := hN
        exact ⟨m - 1, by omega, F', w', acc', ys', b1, b2, b3, b4, b5, by omega, b6⟩
      · -- the item, perhaps in a new pair
        have item : ∃ F3, Ext g F2 H2 F3 H3 w2 ∧ DR g F3 x d := by
          rcases hyl x H3 hx with ⟨e1, r1⟩ | ⟨T, xs, es, e1, nT, e2, r1, e3⟩
          · subst e1; exact ⟨F2, Ext.refl x2.sub x2.bx, r1⟩
          · subst e1 e2 e3
            exact ⟨_, Ext.lay x2.sub x2.bx nT, .tup (.inl (.inl upd_same)) (r1.mono (Ext.lay x2.sub x2.bx nT).ff)⟩
        obtain ⟨F3, x3, rx⟩ := item
        have x13 : Ext g F H F3 H3 w2 := x1.trans (x2.trans x3)
        cases hg : gm d (wipeS S vs) with
        | none => unfold lcLoop at hp; rw [hg] at hp; exact hp.elim
        | some S1 =>
          unfold lcLoop at hp
          rw [hg] at hp
          refine ⟨F3, wipeS S vs, w2, d, S1, (R.ext x13).wipe vs, rx, hg, fun σ2 R2 wp => ⟨?_, ?_⟩⟩
          · rw [wp vs hn]
            apply List.ext_getElem?
            intro j
            simp only [wipe_get, wipe_length]
            by_cases hj : j ∈ vs
            · simp only [if_pos hj]
            · simp only [if_neg hj]
          · refine ⟨F3, S1, w2, R2, nx_post (PostG.ext x13 (PostG.bind hp) fun b w3 h3 => h3) fun b w3 h3 H4 F4 x4 => ?_⟩
            have x14 := x13.trans x4
            have nF4 : F4.free D := (x3.trans x4).free nF2 hD
            have hD4 : H4 D = some (.lst acc) := (x3.trans x4).hh D _ nDb nF2.2 (fun _ z => by cases z) hD
            cases b with
            | false =>
              refine iteF ?_
              exact ⟨F4, w3, acc, ys, x2.trans (x3.trans x4), nF4, hD4, rys.mono (x3.ff.trans x4.ff), by omega, h3⟩
            | true =>
              refine iteT ?_
              refine ⟨F4, S1, w3, R2.ext x4, nx_post (PostG.ext x14 (PostG.bind h3) fun y w5 h5 => h5) fun y w5 h5 v H5 F5 x5 ry => ?_⟩
              have nF5 : F5.free D := x5.free nF4 hD4
              have hD5 : H5 D = some (.lst acc) := x5.hh D _ nDb nF4.2 (fun _ z => by cases z) hD4
              have hal : acc.length = ys.length := rys.length
              refine ⟨acc, hD5, by show acc.length < sizeN; omega, F5, w5, acc ++ [v], ys ++ [y], Ext.mut (x2.trans (x3.trans (x4.trans x5))) nD nF5 nDb hD5 (.inl ⟨_, rfl⟩), nF5, upd_same, (rys.mono (x3.ff.trans (x4.ff.trans x5.ff))).append (.cons ry .nil), by rw [List.length_append, List.length_singleton]; omega, ?_⟩
              refine PostG.imp (PostG.bind h5) fun zs w6 _ h6 => ?_
              rw [List.append_assoc]
              exact h6
  · rw [if_neg hl] at h1; exact h1.elim
theorem do_lc {elt tg iter : Expr} {ifs : List Expr} {scope : Scope} {fi : AM} {gm : GM} {tm : TM} {em : EM} {ns : List Nat} (own : List (Str × Nat)) (hc : X.calm = true) (hN : X.N.Nodup) (hi : DI X g E tg iter fi) (ok : BlkOk X.N X.env.scope scope own)
    (hg : ∀ (s : Shared) (H : Hp) (C : Addr) (cl : List (Str × Addr)) (fp : List Addr), DG (X.blk s H scope (compEnvC scope cl C X.env) fp) g tg ns gm) (ht : ∀ (s : Shared) (H : Hp) (C : Addr) (cl : List (Str × Addr)) (fp : List Addr), DTs (X.blk s H scope (compEnvC scope cl C X.env) fp) g (kE E0) ifs tm)
    (he : ∀ (s : Shared) (H : Hp) (C : Addr) (cl : List (Str × Addr)) (fp : List Addr), DE (X.blk s H scope (compEnvC scope cl C X.env) fp) g (kE E0) elt em) (hn : ∀ i ∈ ns, i ∈ own.map (·.2) := by decide) (hs : ∀ x, foldedSetIterable iter X.env x = pure x := by intro _; rfl) :
    DO X g E (.ListComp elt [⟨tg, iter, ifs, 0⟩] scope pos) (oLc fi gm tm em (own.map (·.2))) := by
  obtain ⟨wi, p, ri⟩ := hi.run
  exact ⟨_, pe_lc hc hN p ok (fun s H C cl fp => (hg s H C cl fp).pg) (fun s H C cl fp => (ht s H C cl fp).pts) (fun s H C cl fp => (he s H C cl fp).pe) hs, lc_run hn ri⟩
end
end Y
namespace Y
open PySem PySem.Spec PyProof.Rows L2
/-! ### statements -/
inductive RS where
  | nx (S : SL) (w : Bx) | rt (d : D) (w : Bx) | bk (S : SL) (w : Bx) | ct (S : SL) (w : Bx) | err (S : SL) (c : Str) (fs : List (Str × D)) (w : Bx) | bad
abbrev SM := SL → Bx → RS
structure RelS (g : G) (F0 : FH) (H0 : Hp) (B F : FH) (w : Bx) (S : SL) (σ : L2.St) (H : Hp) : Prop where
  rel : Rel g F w S σ H
  ext : Ext g F0 H0 F H w
  fl : FSame B F
  fr : ∀ (i : Nat) (ds : List D) (p : Addr), S[i]? = some (some (.own ds)) → σ[i]? = some (some (.ref p)) → H0 p = none
def PostS (g : G) (F0 : FH) (H0 : Hp) (B : FH) (E : EK) (N : Ends) : RS → Prop
  | .nx S w => ∀ (σ' : L2.St) (H' : Hp) (F' : FH), RelS g F0 H0 B F' w S σ' H' → N.nx σ' H'
  | .bk S w => ∀ (σ' : L2.St) (H' : Hp) (F' : FH), RelS g F0 H0 B F' w S σ' H' → N.bk σ' H'
  | .ct S w => ∀ (σ' : L2.St) (H' : Hp) (F' : FH), RelS g F0 H0 B F' w S σ' H' → N.ct σ' H'
  | .rt d w => ∀ (v : V) (H' : Hp) (F' : FH), Ext g F0 H0 F' H' w → DR g F' v d → N.rt v H'
  | .err S c fs w => ∀ (σ' : L2.St) (H' : Hp) (F' : FH), RelS g F0 H0 B F' w S σ' H' → ∀ (cl a : Addr) (vs : List (Str × V)), H0 a = none → g.cls c = some cl → H' a = some (.xd vs) → DRf g F' vs fs → E σ' (.ref cl) (some a) H'
  | .bad => False
structure DS (X : Cx) (g : G) (E : EK) (F0 : FH) (H0 : Hp) (st : Stmt) (m : SM) : Prop where
  run : ∃ t, PS X st t ∧ ∀ (N : Ends) (σ : L2.St) (H : Hp) (F : FH) (S : SL) (w : Bx) (B : FH), RelS g F0 H0 B F w S σ H → PostS g F0 H0 B E N (m S w) → t N σ H
structure DSs (X : Cx) (g : G) (E : EK) (F0 : FH) (H0 : Hp) (st : List Stmt) (m : SM) : Prop where
  run : ∃ t, PSs X st t ∧ ∀ (N : Ends) (σ : L2.St) (H : Hp) (F : FH) (S : SL) (w : Bx) (B : FH), RelS g F0 H0 B F w S σ H → PostS g F0 H0 B E N (m S w) → t N σ H
/-- a value, then what follows -/
def R.to {α : Type} : R α → SL → (α → Bx → RS) → RS
  | .ok a w, _, k => k a w
  | .err c fs w, S, _ => .err S c fs w
  | .bad, _, _ => .bad
@[simp] theorem R.to_ok {α : Type} (a : α) (w : Bx) (S : SL) (k : α → Bx → RS) : (R.ok a w).to S k = k a w := rfl
@[simp] theorem R.to_err {α : Type} (c : Str) (fs : List (Str × D)) (w : Bx) (S : SL) (k : α → Bx → RS) : (R.err c fs w : R α).to S k = .err S c fs w := rfl
@[simp] theorem R.to_bad {α : Type} (S : SL) (k : α → Bx → RS) : (R.bad : R α).to S k = .bad := rfl
section
variable {X : Cx} {g : G} {E : EK} {F0 : FH} {H0 : Hp} {B : FH} {e a b c : Expr} {es : List Expr} {pos p p2 : Pos} {fa fb f : EM} {fs : AM} {st : Stmt} {sts : List Stmt} {m m2 : SM} {N : Ends}
theorem RelS.ext' {F F' : FH} {H H' : Hp} {w w' : Bx} {S : SL} {σ : L2.St} (R : RelS g F0 H0 B F w S σ H) (x : Ext g F H F' H' w') : RelS g F0 H0 B F' w' S σ H' := ⟨R.rel.ext x, R.ext.trans x, R.fl.trans x.ff, R.fr⟩
theorem PostS.to {α : Type} {F : FH} {H : Hp} {w : Bx} {S : SL} {σ : L2.St} {r : R α} {k : α → Bx → RS} (R0 : RelS g F0 H0 B F w S σ H) (h : PostS g F0 H0 B E N (r.to S k)) : PostG g F H (E σ) (fun a w' => PostS g F0 H0 B E N (k a w')) r := by
  cases r with
  | ok a w => exact h
  | err c fs w => exact fun cl x vs H' F' e n k l q => h σ H' F' (RelS.ext' R0 e) cl x vs (R0.ext.fresh n) k l q
  | bad => exact h
def sNil : SM := fun S w => .nx S w
def sSeq (m k : SM) : SM := fun S w => match m S w with
  | .nx S1 w1 => k S1 w1
  | r => r
theorem dss_nil : DSs X g E F0 H0 [] sNil := ⟨_, pss_nil, fun N σ H F S w B R h => h σ H F R⟩
theorem dss_cons (h1 : DS X g E F0 H0 st m) (h2 : DSs X g E F0 H0 sts m2) : DSs X g E F0 H0 (st :: sts) (sSeq m m2) := by
  obtain ⟨t, p, r⟩ := h1.run
  obtain ⟨t2, p2, r2⟩ := h2.run
  refine ⟨_, pss_cons p p2, fun N σ H F S w B R h => ?_⟩
  refine r { N with nx := t2 N } σ H F S w B R ?_
  unfold sSeq at h
  cases hm : m S w with
  | nx S1 w1 => rw [hm] at h; exact fun σ' H' F' R' => r2 N σ' H' F' S1 w1 B R' h
  | rt d w1 => rw [hm] at h; exact h
  | bk S1 w1 => rw [hm] at h; exact h
  | ct S1 w1 => rw [hm] at h; exact h
  | err S1 c fs w1 => rw [hm] at h; exact h
  | bad => rw [hm] at h; exact h
theorem dss_one (h1 : DS X g E F0 H0 st m) : DSs X g E F0 H0 [st] m := let ⟨t, p, r⟩ := h1.run; ⟨t, pss_one p, r⟩
def sRet (f : EM) : SM := fun S w => (f S w).to S fun d w1 => .rt d w1
theorem ds_ret (ha : DE X g E a fa) : DS X g E F0 H0 (.Return (some a) pos) (sRet fa) := by
  obtain ⟨t, p, r⟩ := ha.run
  refine ⟨_, ps_ret p, fun N σ H F S w B R h => ?_⟩
  exact r σ H _ F S w R.rel (PostG.imp (PostS.to R h) fun d w1 _ h1 v H1 F1 x1 r1 => h1 v H1 F1 (R.ext.trans x1) r1)
def sIf (t : TM) (m k : SM) : SM := fun S w => (t S w).to S fun b w1 => if b then m S w1 else k S w1
theorem ds_if {tc : TM} {aa bb : List Stmt} (hc : DT X g E c tc) (ha : DSs X g E F0 H0 aa m) (hb : DSs X g E F0 H0 bb m2) : DS X g E F0 H0 (.If c aa bb pos) (sIf tc m m2) := by
  obtain ⟨t, p, r⟩ := hc.run
  obtain ⟨t1, p1, r1⟩ := ha.run
  obtain ⟨t2, p2, r2⟩ := hb.run
  refine ⟨_, ps_if p p1 p2, fun N σ H F S w B R h => ?_⟩
  refine r σ H _ F S w R.rel (PostG.imp (PostS.to R h) fun b w1 _ h1 H1 F1 x1 => ?_)
  cases b with
  | true => exact iteT (r1 N σ H1 F1 S w1 B (R.ext' x1) h1)
  | false => exact iteF (r2 N σ H1 F1 S w1 B (R.ext' x1) h1)
/-! assignments -/
theorem RelS.set {F : FH} {H : Hp} {w : Bx} {S : SL} {σ : L2.St} {v : V} {d : D} (R : RelS g F0 H0 B F w S σ H) (i : Nat) (r : DR g F v d) : RelS g F0 H0 B F w (S.set i (some (.dat d))) (σ.set i (some v)) H := by
  refine ⟨R.rel.set i r, R.ext, R.fl, fun j ds p h1 h2 => ?_⟩
  rw [List.getElem?_set] at h1 h2
  by_cases e : i = j
  · rw [if_pos e] at h1; split at h1 <;> cases h1
  · rw [if_neg e] at h1 h2; exact R.fr j ds p h1 h2
def sSet (i : Nat) (f : EM) : SM := fun S w => (f S w).to S fun d w1 => .nx (S.set i (some (.dat d))) w1
theorem set_run {t : TE} {i : Nat} (r : ∀ σ H Q F S w, Rel g F w S σ H → Post g F H Q (E σ) (f S w) → t σ H Q) : ∀ (N : Ends) (σ : L2.St) (H : Hp) (F : FH) (S : SL) (w : Bx) (B : FH), RelS g F0 H0 B F w S σ H → PostS g F0 H0 B E N (sSet i f S w) → tAsg t (gName i) N σ H := by
  intro N σ H F S w B R h
  exact r σ H _ F S w R.rel (PostG.imp (PostS.to R h) fun d w1 _ h1 v H1 F1 x1 r1 => h1 _ H1 F1 ((R.ext' x1).set i r1))
theorem ds_set (i : Nat) {x : Str} (ha : DE X g E a f) (hN : X.N.Nodup) (hi : X.N[i]? = some x := by rfl) (hx : Loc X.env.scope x := by first | exact Or.inl rfl | exact Or.inr rfl) (hs : swapsWith a (some (.Name x p2)) pos.line X.env = pure false := by rfl)
    (hf : X.fn x = true ∨ X.env.scope.names.lookup x = some .local := by first | exact .inl rfl | exact .inr rfl) : DS X g E F0 H0 (.Assign [.Name x p2] a pos) (sSet i f) := by
  obtain ⟨t, p, r⟩ := ha.run
  exact ⟨_, ps_set hN hi hx p hs hf, set_run r⟩
/-- any target -/
theorem wipe_off {σ σ' : L2.St} {ns : List Nat} (h : L2.wipe σ' ns = L2.wipe σ ns) {i : Nat} (hi : i ∉ ns) : σ'[i]? = σ[i]? := by
  have h1 := congrArg (fun l : L2.St => l[i]?) h
  simp only [wipe_get, if_neg hi] at h1
  exact h1
theorem RelS.tgt {F : FH} {H : Hp} {w : Bx} {S S' : SL} {σ σ' : L2.St} {tg : Expr} {ns : List Nat} {gm : GM} {d : D} (hg : DG X g tg ns gm) (R : RelS g F0 H0 B F w S σ H) (hm : gm d S = some S') (R' : Rel g F w S' σ' H) (hw : ∀ vs, (∀ i ∈ ns, i ∈ vs) → L2.wipe σ' vs = L2.wipe σ vs) : RelS g F0 H0 B F w S' σ' H :=
  ⟨R', R.ext, R.fl, fun i ds p h1 h2 => by
    obtain ⟨a1, a2⟩ := hg.own d S S' i ds hm h1
    rw [wipe_off (hw ns fun _ z => z) a2] at h2
    exact R.fr i ds p a1 h2⟩
def sAsg (f : EM) (gm : GM) : SM := fun S w => (f S w).to S fun d w1 => match gm d S with
  | some S1 => .nx S1 w1
  | none => .bad
theorem ds_asg {tg : Expr} {ns : List Nat} {gm : GM} (ha : DE X g E a f) (hg : DG X g tg ns gm) (hq : ∀ (te : TE) (tt : TG), PE X a te → PG X tg tt → PS X (.Assign [tg] a pos) (tAsg te tt) := by exact fun _ _ h1 h2 => ps_asg h1 h2) : DS X g E F0 H0 (.Assign [tg] a pos) (sAsg f gm) := by
  obtain ⟨t, p, r⟩ := ha.run
  obtain ⟨tg', pg, rg⟩ := hg.run
  refine ⟨_, hq _ _ p pg, fun N σ H F S w B R h => ?_⟩
  refine r σ H _ F S w R.rel (PostG.imp (PostS.to R h) fun d w1 _ h1 v H1 F1 x1 r1 => ?_)
  cases hm : gm d S with
  | none => rw [hm] at h1; exact h1.elim
  | some S1 =>
    rw [hm] at h1
    exact rg v σ H1 _ F1 S w1 d S1 (R.rel.ext x1) r1 hm fun σ' R' hw => h1 σ' H1 F1 ((R.ext' x1).tgt hg hm R' hw)
/-- a, b = x, y -/
def sPar (i j : Nat) (fs : AM) : SM := fun S w => (fs S w).to S fun ds w1 => match ds with
  | [d, e] => .nx ((S.set i (some (.dat d))).set j (some (.dat e))) w1
  | _ => .bad
theorem ds_par (i j : Nat) {x y : Str} {px py pt : Pos} {kt k2 : Nat} {pt2 : Pos} (hp : ∀ ta : TA, PA X [a, b] ta → PS X (.Assign [.Tuple [.Name x px, .Name y py] kt pt] (.Tuple [a, b] k2 pt2) pos) (tPar i j ta)) (ha : DA X g E [a, b] fs) :
    DS X g E F0 H0 (.Assign [.Tuple [.Name x px, .Name y py] kt pt] (.Tuple [a, b] k2 pt2) pos) (sPar i j fs) := by
  obtain ⟨t, p, r⟩ := ha.run
  refine ⟨_, hp t p, fun N σ H F S w B R h => ?_⟩
  refine r σ H _ F S w R.rel (PostG.imp (PostS.to R h) fun ds w1 _ h1 vs H1 F1 x1 r1 => ?_)
  split at h1
  · obtain ⟨v, u, rfl, h, h'⟩ := drs2 r1
    exact ⟨v, u, rfl, h1 _ H1 F1 (((R.ext' x1).set i h).set j h')⟩
  · exact h1.elim
def sPar3 (i j k : Nat) (fs : AM) : SM := fun S w => (fs S w).to S fun ds w1 => match ds with
  | [d, e, q] => .nx (((S.set i (some (.dat d))).set j (some (.dat e))).set k (some (.dat q))) w1
  | _ => .bad
/-! lists that are changed -/
theorem RelS.mut {F : FH} {H : Hp} {w : Bx} {S : SL} {σ : L2.St} {i : Nat} {q : Addr} {us : List V} {ds es : List D} (R : RelS g F0 H0 B F w S σ H) (hi : S[i]? = some (some (.own ds))) (hs : σ[i]? = some (some (.ref q))) (nF : F.free q) (nb : q ≠ g.bx) (r : DRs g F us es) :
    RelS g F0 H0 B F w (S.set i (some (.own es))) σ (upd H q (.lst us)) := by
  have hl : i < S.length := (List.getElem?_eq_some_iff.mp hi).1
  have hqv : ∃ vs0, H q = some (.lst vs0) := by
    obtain ⟨v, e1, q', vs', e2, _, _, hp', _⟩ := R.rel.sl i _ hi
    rw [hs] at e1; cases e1; cases e2
    exact ⟨vs', hp'⟩
  obtain ⟨vs0, hqv⟩ := hqv
  have x : Ext g F0 H0 F (upd H q (.lst us)) w := Ext.mut R.ext (R.fr i ds q hi hs) nF nb hqv (.inl ⟨_, rfl⟩)
  refine ⟨⟨x.sub, x.bx, by rw [List.length_set]; exact R.rel.len, fun j s hj => ?_, fun j k es1 es2 u h1 h2 h3 h4 => ?_⟩, x, R.fl, fun j es1 p h1 h2 => ?_⟩
  · rw [List.getElem?_set] at hj
    by_cases e : i = j
    · subst e
      rw [if_pos rfl, if_pos hl] at hj; cases hj
      exact ⟨_, hs, q, us, rfl, nF, nb, upd_same, r⟩
    · rw [if_neg e] at hj
      obtain ⟨v, e1, e2⟩ := R.rel.sl j s hj
      refine ⟨v, e1, ?_⟩
      cases s with
      | dat d => exact e2
      | own zs =>
        obtain ⟨q2, ws, e3, e4, e5, e6, e7⟩ := e2
        subst e3
        refine ⟨q2, ws, rfl, e4, e5, ?_, e7⟩
        rw [upd_ne (fun z => e ?_)]
        · exact e6
        · subst z; exact (R.rel.inj i j ds zs _ hi hj hs e1)
      | lam ls =>
        obtain ⟨p, ws, e3, e4, e5⟩ := e2
        obtain ⟨v2, k1, q2, ws2, k2, _, _, k3, _⟩ := R.rel.sl i _ hi
        rw [hs] at k1; cases k1; cases k2
        exact ⟨p, ws, e3, e4, e5.upd k3 fun _ z => by cases z⟩
      | ins c fs =>
        obtain ⟨C, ws, e3, hc, n1, n2, b1, b2, g1, g2, e7⟩ := e2
        obtain ⟨v2, k1, q2, ws2, k2, _, _, k3, _⟩ := R.rel.sl i _ hi
        rw [hs] at k1; cases k1; cases k2
        have d1 : g.me ≠ q := fun z => by rw [z, k3] at g1; cases g1
        have d2 : g.md ≠ q := fun z => by rw [z, k3] at g2; cases g2
        exact ⟨C, ws, e3, hc, n1, n2, b1, b2, by rw [upd_ne d1]; exact g1, by rw [upd_ne d2]; exact g2, e7⟩
  · have key : ∀ (j : Nat) (zs : List D), (S.set i (some (.own es)))[j]? = some (some (.own zs)) → ∃ zs', S[j]? = some (some (.own zs')) := fun j zs h => by
      rw [List.getElem?_set] at h
      by_cases e : i = j
      · subst e; exact ⟨ds, hi⟩
      · rw [if_neg e] at h; exact ⟨zs, h⟩
    obtain ⟨z1, h1⟩ := key j es1 h1
    obtain ⟨z2, h2⟩ := key k es2 h2
    exact R.rel.inj j k z1 z2 u h1 h2 h3 h4
  · rw [List.getElem?_set] at h1
    by_cases e : i = j
    · subst e; exact R.fr i ds p hi h2
    · rw [if_neg e] at h1; exact R.fr j es1 p h1 h2
def ownAt (S : SL) (i : Nat) : Option (List D) := match S[i]? with
  | some (some (.own ds)) => some ds
  | _ => none
theorem ownAt_some {S : SL} {i : Nat} {ds : List D} (h : ownAt S i = some ds) : S[i]? = some (some (.own ds)) := by
  unfold ownAt at h
  split at h
  · cases h; assumption
  · cases h
/-- a list that is not changed any more -/
def frz (i : Nat) (S : SL) : SL := match ownAt S i with
  | some ds => S.set i (some (.dat (.lst ds)))
  | none => S
theorem RelS.frz {F : FH} {H : Hp} {w : Bx} {S : SL} {σ : L2.St} (R : RelS g F0 H0 B F w S σ H) (i : Nat) : ∃ F', RelS g F0 H0 B F' w (Y.frz i S) σ H := by
  unfold Y.frz
  cases ho : ownAt S i with
  | none => exact ⟨F, R⟩
  | some ds =>
    have hi := ownAt_some ho
    have hl : i < S.length := (List.getElem?_eq_some_iff.mp hi).1
    obtain ⟨v, e1, q, vs, e2, nF, nb, hp, rd⟩ := R.rel.sl i _ hi
    subst e2
    have n0 := R.fr i ds q hi e1
    have x := Ext.freeze R.ext n0 nF hp nb
    have sF : FSame F (F.upd q (.lst vs)) := FSame.upd nF.1
    refine ⟨F.upd q (.lst vs), ⟨⟨x.sub, x.bx, by rw [List.length_set]; exact R.rel.len, fun j s hj => ?_, fun j k es1 es2 u h1 h2 h3 h4 => ?_⟩, x, R.fl.trans sF, fun j es1 p h1 h2 => ?_⟩⟩
    · rw [List.getElem?_set] at hj
      by_cases e : i = j
      · subst e
        rw [if_pos rfl, if_pos hl] at hj; cases hj
        exact ⟨_, e1, .lst upd_same (rd.mono sF)⟩
      · rw [if_neg e] at hj
        obtain ⟨v, e3, e4⟩ := R.rel.sl j s hj
        refine ⟨v, e3, ?_⟩
        cases s with
        | dat d => exact DR.mono sF e4
        | own zs =>
          obtain ⟨q2, ws, e5, e6, e7, e8, e9⟩ := e4
          subst e5
          refine ⟨q2, ws, rfl, ?_, e7, e8, e9.mono sF⟩
          refine e6.upd fun z => e ?_
          subst z; exact R.rel.inj i j ds zs _ hi hj e1 e3
        | lam ls =>
          obtain ⟨p, ws, e5, e6, e7⟩ := e4
          exact ⟨p, ws, e5, sF.fz _ _ e6, e7.keep sF.fz fun a z nb na hc => ⟨hc, na⟩⟩
        | ins c fs =>
          obtain ⟨C, ws, e5, hc, n1, n2, b1, b2, g1, g2, e9⟩ := e4
          have d1 : g.me ≠ q := fun z => by rw [z, hp] at g1; cases g1
          have d2 : g.md ≠ q := fun z => by rw [z, hp] at g2; cases g2
          exact ⟨C, ws, e5, hc, n1.upd d1, n2.upd d2, b1, b2, g1, g2, e9.mono sF⟩
    · rw [List.getElem?_set] at h1 h2
      by_cases e : i = j
      · rw [if_pos e] at h1; split at h1 <;> cases h1
      · by_cases e2 : i = k
        · rw [if_pos e2] at h2; split at h2 <;> cases h2
        · rw [if_neg e] at h1; rw [if_neg e2] at h2; exact R.rel.inj j k es1 es2 u h1 h2 h3 h4
    · rw [List.getElem?_set] at h1
      by_cases e : i = j
      · rw [if_pos e] at h1; split at h1 <;> cases h1
      · rw [if_neg e] at h1; exact R.fr j es1 p h1 h2
/-! loops -/
def forLoop (gm : GM) (body : SM) : List D → SL → Bx → RS
  | [], S, w => .nx S w
  | d :: ds, S, w => match gm d S with
    | none => .bad
    | some S1 => match body S1 w with
      | .nx S2 w2 => forLoop gm body ds S2 w2
      | .ct S2 w2 => forLoop gm body ds S2 w2
      | .bk S2 w2 => .nx S2 w2
      | r => r
def sFor (fi : AM) (gm : GM) (body : SM) : SM := fun S w => (fi S w).to S fun ds w1 => forLoop gm body ds S w1
theorem ds_for {tg iter : Expr} {body : List Stmt} {fi : AM} {gm : GM} {ns : List Nat} (hp : PassesOwn (model X.prog X.w) X.A X.env X.xe) (hc : X.calm = true) (hi : DI X g E tg iter fi) (hg : DG X g tg ns gm) (hb : DSs X g E F0 H0 body m)
    (hq : PassesOwn (model X.prog X.w) X.A X.env X.xe → X.calm = true → ∀ (wi : TI) (g : TG) (tb : TS), PI X tg iter wi → PG X tg g → PSs X body tb → PS X (.For tg iter body [] pos) (tFor wi g tb) := by exact fun hp hc _ _ _ h1 h2 h3 => ps_for hp hc h1 h2 h3) : DS X g E F0 H0 (.For tg iter body [] pos) (sFor fi gm m) := by
  obtain ⟨wi, pi, ri⟩ := hi.run
  obtain ⟨tg', pg, rg⟩ := hg.run
  obtain ⟨tb, pb, rb⟩ := hb.run
  refine ⟨_, hq hp hc _ _ _ pi pg pb, fun N σ H F S w B R h => ?_⟩
  refine ri σ H _ F S w R.rel (PostG.imp (PostS.to R h) fun ds w1 _ h1 J H1 F1 x1 yl => ?_)
  have sB : FSame B F1 := R.fl.trans x1.ff
  have R1 : RelS g F0 H0 F1 F1 w1 S σ H1 := { R.ext' x1 with fl := FSame.refl F1 }
  refine ⟨fun i k σ2 H2 => ∃ F2 S2 w2, RelS g F0 H0 F1 F2 w2 S2 σ2 H2 ∧ i + k = ds.length ∧ PostS g F0 H0 B E N (forLoop gm m (ds.drop i) S2 w2), ⟨ds.length, F1, S, w1, R1, by omega, h1⟩, fun i k σ2 H2 hW => ?_⟩
  obtain ⟨F2, S2, w2, R2, hik, hpost⟩ := hW
  have lower : ∀ {F S w σ H}, RelS g F0 H0 F1 F w S σ H → RelS g F0 H0 B F w S σ H := fun r => { r with fl := sB.trans r.fl }
  cases hd : ds[i]? with
  | none =>
    have hle : ds.length ≤ i := List.getElem?_eq_none_iff.mp hd
    rw [List.drop_eq_nil_of_le hle] at hpost
    have hie : i = ds.length := by omega
    exact .inl ⟨hie ▸ yl.stop F2 H2 R2.fl R2.rel.sub, hpost σ2 H2 F2 (lower R2)⟩
  | some d =>
    obtain ⟨hlt, hde⟩ := List.getElem?_eq_some_iff.mp hd
    obtain ⟨hgo, hyl⟩ := yl.go i d F2 H2 R2.fl R2.rel.sub hd
    rw [List.drop_eq_getElem_cons hlt, hde] at hpost
    refine .inr ⟨hgo, fun σ3 H3 => ∃ F3 S3 w3, RelS g F0 H0 F1 F3 w3 S3 σ3 H3 ∧ PostS g F0 H0 B E N (forLoop gm m (ds.drop (i + 1)) S3 w3), fun σ3 H3 hN => ?_, fun x H3 hx => ?_⟩
    · obtain ⟨F3, S3, w3, b1, b3⟩ := hN
      exact ⟨k - 1, by omega, F3, S3, w3, b1, by omega, b3⟩
    · have item : ∃ F3, Ext g F2 H2 F3 H3 w2 ∧ DR g F3 x d := by
        rcases hyl x H3 hx with ⟨e1, r1⟩ | ⟨T, xs, es, e1, nT, e2, r1, e3⟩
        · subst e1; exact ⟨F2, Ext.refl R2.rel.sub R2.rel.bx, r1⟩
        · subst e1 e2 e3
          exact ⟨_, Ext.lay R2.rel.sub R2.rel.bx nT, .tup (.inl (.inl upd_same)) (r1.mono (Ext.lay R2.rel.sub R2.rel.bx nT).ff)⟩
      obtain ⟨F3, x3, rx⟩ := item
      unfold forLoop at hpost
      cases hm : gm d S2 with
      | none => rw [hm] at hpost; exact hpost.elim
      | some S3 =>
        rw [hm] at hpost
        have R3 := R2.ext' x3
        refine rg x σ2 H3 _ F3 S2 w2 d S3 R3.rel rx hm fun σ3 Rl hw => ?_
        refine rb _ σ3 H3 F3 S3 w2 F1 (R3.tgt hg hm Rl hw) ?_
        cases hbd : m S3 w2 with
        | nx S4 w4 => simp only [hbd] at hpost; exact fun σ4 H4 F4 R4 => ⟨F4, S4, w4, R4, hpost⟩
        | ct S4 w4 => simp only [hbd] at hpost; exact fun σ4 H4 F4 R4 => ⟨F4, S4, w4, R4, hpost⟩
        | bk S4 w4 => simp only [hbd] at hpost; exact fun σ4 H4 F4 R4 => hpost σ4 H4 F4 (lower R4)
        | rt d w4 => simp only [hbd] at hpost; exact hpost
        | err S4 c fs w4 => simp only [hbd] at hpost; exact fun σ4 H4 F4 R4 => hpost σ4 H4 F4 (lower R4)
        | bad => simp only [hbd] at hpost; exact hpost
end
/-! ### a def -/
def startS (n : Nat) (ds : List D) : SL := ds.map (fun d => some (.dat d)) ++ List.replicate (n - ds.length) none
def runF (k n : Nat) (body : SM) : List D → Bx → R D := fun ds w => if ds.length = k then (match body (startS n ds) w with
  | .nx _ w1 => .ok .non w1
  | .rt d w1 => .ok d w1
  | .err _ c fs w1 => .err c fs w1
  | _ => .bad) else .bad
section
variable {P : Program} {w : World} {K : PySem.W.Frag} {mg : Str → Option Value} {base : Heap} {cls : CT}
theorem rel_start {g : G} {F : FH} {H : Hp} {w : Bx} {vs : List V} {ds : List D} {N : List Str} (s : Same F H) (b : BxOk g F w H) (r : DRs g F vs ds) : RelS g F H F F w (startS N.length ds) (start N vs) H := by
  have key : ∀ (i : Nat) (x : SV), (startS N.length ds)[i]? = some (some x) → ∃ d v, x = .dat d ∧ (start N vs)[i]? = some (some v) ∧ DR g F v d := fun i x hx => by
    unfold startS at hx
    unfold L2.start
    rw [List.getElem?_append] at hx ⊢
    simp only [List.length_map] at hx ⊢
    rw [r.length]
    by_cases hi : i < ds.length
    · rw [if_pos hi] at hx ⊢
      rw [List.getElem?_map] at hx ⊢
      obtain ⟨d, hd, e⟩ := Option.map_eq_some_iff.mp hx
      cases e
      obtain ⟨v, hv, rv⟩ := r.get hd
      exact ⟨d, v, rfl, by rw [hv]; rfl, rv⟩
    · rw [if_neg hi, List.getElem?_replicate] at hx
      split at hx <;> cases hx
  refine ⟨⟨s, b, ?_, fun i x hx => ?_, fun i j ds1 ds2 v h1 => ?_⟩, Ext.refl s b, FSame.refl F, fun i ds1 p h1 => ?_⟩
  · unfold startS L2.start
    simp [r.length]
  · obtain ⟨d, v, rfl, h1, h2⟩ := key i x hx
    exact ⟨v, h1, h2⟩
  · obtain ⟨d, _, e, _⟩ := key i _ h1; cases e
  · obtain ⟨d, _, e, _⟩ := key i _ h1; cases e
/-- the code object of a def -/
def CodeIs (K : PySem.W.Frag) (f : Addr) (cdv : Value) : Prop := ∃ oc od fd osl, K.lookup f = some ⟨oc, od, .func fd, osl⟩ ∧ fd.code = cdv
theorem okC {x qual : Str} {st : Stmt} {f : Addr} {fd : FuncData} {N ps : List Str} {k : Nat} {sp : Sp} (F : Fun K x qual st f fd) (S : FnScope N ps (defScope st)) (ln : ∀ vs H Q E, sp vs H Q E → vs.length = ps.length)
    (hb : ∀ (cdv : Value), CodeIs K f cdv → ∀ (A : Around) (outer : List Env) (s : Shared) (H : Hp) (vs : List V) (Q : VK) (E : XK), Room k (A.deeper (envOfC qual (defScope st) s.heap.objs.size f cdv)) → sp vs H Q E → ∃ t, PSs (cxOf (L2N.CX P w) P w K mg base N qual (defScope st) f cdv A outer s H E) (defBody st) t ∧ t { nx := fun _ H' => Q .non H', rt := Q } (start N vs) H) :
    FnOk P w K mg base (L2N.CX P w) (k + 1) f fd ps sp := by
  obtain ⟨oc, od, kV, dc, pm, an, cv, ct, sl, rfl, lk, hcd⟩ := F.ex
  exact fn_of lk hcd S ln fun A outer s H vs Q E hr h => hb cv ⟨_, _, _, _, lk, rfl⟩ A outer s H vs Q E hr h
theorem okXN {x qual : Str} {st : Stmt} {f : Addr} {fd : FuncData} {N ps : List Str} {k : Nat} {sp : Sp} (F : Fun K x qual st f fd) (S : FnScope N ps (defScope st)) (ln : ∀ vs H Q E, sp vs H Q E → vs.length = ps.length)
    (hb : ∀ (cdv : Value) (A : Around) (outer : List Env) (s : Shared) (H : Hp) (vs : List V) (Q : VK) (E : XK), Room k (A.deeper (envOfC qual (defScope st) s.heap.objs.size f cdv)) → sp vs H Q E → ∃ t, PSs (cxOf (L2N.CX P w) P w K mg base N qual (defScope st) f cdv A outer s H E) (defBody st) t ∧ t { nx := fun _ H' => Q .non H', rt := Q } (start N vs) H) :
    FnOk P w K mg base (L2N.CX P w) (k + 1) f fd ps sp := okC F S ln fun cdv _ => hb cdv
theorem cal_of {x : Str} {st : Stmt} {f : Addr} {fd : FuncData} {N ps : List Str} {k : Nat} {m : List D → Bx → R D} {body : SM} (F : Fun K x x st f fd) (S : FnScope N ps (defScope st)) (hmg : mg x = some (.ref f)) (hb : Binds K fd ps [])
    (hbody : ∀ (cdv : Value), CodeIs K f cdv → ∀ (A : Around) (outer : List Env) (s : Shared) (H : Hp) (E : XK) (bx : BQ) (F0 : FH), Room k (A.deeper (envOfC x (defScope st) s.heap.objs.size f cdv)) →
      DSs (cxOf (L2N.CX P w) P w K mg base N x (defScope st) f cdv A outer s H E) ⟨K, cls, bx⟩ (kE E) F0 H (defBody st) body)
    (hm : ∀ ds w, m ds w ≠ .bad → runF ps.length N.length body ds w = m ds w) : Cal P w K mg base cls x (k + 1) ps.length m := by
  refine ⟨f, fd, ps, okC F S (fun vs H Q E h => h.1) (fun cdv hcv A outer s H vs Q E hr h => ?_), hmg, F.kp, hb⟩
  obtain ⟨hl, bx, F0, ds, w0, s1, b1, rd, hp⟩ := h
  obtain ⟨t, pt, rt⟩ := (hbody cdv hcv A outer s H E bx F0 hr).run
  refine ⟨t, pt, rt _ (start N vs) H F0 (startS N.length ds) w0 F0 (rel_start s1 b1 rd) ?_⟩
  have hnb : m ds w0 ≠ .bad := fun e => by rw [e] at hp; exact hp
  have e := hm ds w0 hnb
  rw [← e] at hp
  unfold runF at hp
  rw [if_pos (by rw [← rd.length]; exact hl)] at hp
  cases hbd : body (startS N.length ds) w0 with
  | nx S1 w1 => simp only [hbd] at hp; exact fun σ' H' F' R' => hp .non H' F' R'.ext .non
  | rt d w1 => simp only [hbd] at hp; exact hp
  | bk S1 w1 => simp only [hbd] at hp; exact hp.elim
  | ct S1 w1 => simp only [hbd] at hp; exact hp.elim
  | err S1 c fs w1 => simp only [hbd] at hp; exact fun σ' H' F' R' cl a vs n k l r => hp cl a vs H' F' R'.ext n k l r
  | bad => simp only [hbd] at hp; exact hp
end
end Y
namespace Y
open PySem PySem.Spec PyProof.Rows L2
theorem u65 {k : Nat} {A : Around} (r : Room k A) : A.units + 65 < cLine := by have := r.un; omega
theorem u64 {k : Nat} {A : Around} (r : Room k A) : A.units + 64 < cLine := r.units
/-! ### the box's four places -/
def bxGet (w : Bx) : Int → Option D
  | 0 => some (.lst (w.cells.map .int))
  | 1 => some (.int (w.ix : Int))
  | 2 => some (.int w.big)
  | 3 => some (.int w.mark)
  | _ => none
def bxPut (w : Bx) (k : Int) (d : D) : Option Bx := match d with
  | .int i => if k = 1 then (if 0 ≤ i then some { w with ix := i.toNat } else none)
    else if k = 2 then (if 0 ≤ i then some { w with big := i } else none)
    else if k = 3 then (if 0 ≤ i ∧ i < 2147483647 then some { w with mark := i } else none) else none
  | _ => none
def isBox (S : SL) (i : Nat) : Bool := match S[i]? with
  | some (some (.dat .box)) => true
  | _ => false
theorem isBox_at {S : SL} {i : Nat} (h : isBox S i = true) : S[i]? = some (some (.dat .box)) := by
  unfold isBox at h
  split at h
  · assumption
  · cases h
def eBx (i : Nat) (k : Int) : EM := fun S w => if isBox S i then R.ofO (bxGet w k) w else .bad
section
variable {X : Cx} {g : G} {E : EK} {F0 : FH} {H0 : Hp} {B : FH} {e a b c : Expr} {es : List Expr} {pos p p2 : Pos} {fa fb fc f : EM} {fs : AM} {m : SM}
theorem drs_ints {F : FH} : ∀ ns : List Int, DRs g F (ns.map V.int) (ns.map D.int)
  | [] => .nil
  | n :: ns => .cons (.int n) (drs_ints ns)
theorem de_bx (i : Nat) (k : Int) {x : Str} {px pk : Pos} {j : Nat} (hK : g.K = X.K) (hN : X.N[i]? = some x := by rfl) (hv : Vis X.env.scope x := by first | exact Or.inl rfl | exact Or.inr (Or.inl rfl) | exact Or.inr (Or.inr rfl)) (hd : (x == ("__debug__" : Str)) = false := by decide)
    (hcd : (x == ("__classdict__" : Str)) = false := by decide) (hs : PlainIx (.Constant (.int k) j pk) := by exact fun _ _ => rfl) : DE X g E (.Subscript (.Name x px) (.Constant (.int k) j pk) pos) (eBx i k) := by
  refine ⟨_, pe_ix ix_list (pe_var hN hv hd hcd) pe_int hs, fun σ H Q F S w R h => ?_⟩
  unfold eBx at h
  by_cases hb : isBox S i = true
  · rw [if_pos hb] at h
    obtain ⟨v, e1, e2⟩ := R.sl i _ (isBox_at hb)
    cases e2
    obtain ⟨c, h1, h2⟩ := R.bx.at_
    obtain ⟨z, hz, q⟩ := post_ofO h
    refine ⟨_, e1, ?_⟩
    have hsq : SqL X.K H g.bx [.ref c, .int (w.ix : Int), .int w.big, .int w.mark] := .inl (.inl h1)
    unfold bxGet at hz
    split at hz
    · cases hz; exact ⟨_, _, _, _, rfl, rfl, hsq, rfl, q _ H F R.ex (.lst h2 (drs_ints _))⟩
    · cases hz; exact ⟨_, _, _, _, rfl, rfl, hsq, rfl, q _ H F R.ex (.int _)⟩
    · cases hz; exact ⟨_, _, _, _, rfl, rfl, hsq, rfl, q _ H F R.ex (.int _)⟩
    · cases hz; exact ⟨_, _, _, _, rfl, rfl, hsq, rfl, q _ H F R.ex (.int _)⟩
    · cases hz
  · rw [if_neg hb] at h; exact h.elim
def sBx (i : Nat) (k : Int) (f : EM) : SM := fun S w => (f S w).to S fun d w1 => if isBox S i then (match bxPut w1 k d with
  | some w2 => .nx S w2
  | none => .bad) else .bad
theorem BxOk.reb {F : FH} {H : Hp} {w w' : Bx} {xs : List V} (b : BxOk g F w H) (h : ∃ c, upd H g.bx (.lst xs) g.bx = some (.lst [.ref c, .int (w'.ix : Int), .int w'.big, .int w'.mark]) ∧ F c = some (.lst (w'.cells.map V.int))) (h1 : 0 ≤ w'.big) (h2 : 0 ≤ w'.mark) (h3 : w'.mark < 2147483647) (h4 : w'.cells.length ≤ 63) (hs : w'.st = w.st := by rfl) : BxOk g F w' (upd H g.bx (.lst xs)) := by
  have kx : ∀ a o, (∀ vs, o ≠ .lst vs) → H a = some o → upd H g.bx (.lst xs) a = some o := fun a o n q => by
    rw [upd_ne (fun e => ?_)]
    · exact q
    · obtain ⟨c, z, _⟩ := b.at_
      rw [e, z] at q; cases q; exact n _ rfl
  refine ⟨h, b.no, h1, h2, h3, h4, fun i c q => ?_, by rw [hs]; exact b.adl, b.inj, Tabs.keep b.tabs (fun a o n _ _ q => kx a o n q), b.ntb⟩
  rw [hs] at q
  obtain ⟨a, e1, e2, e3, e4⟩ := b.cel i c q
  exact ⟨a, e1, e2, e3, e4.keep (FSame.refl F) (upd_ne e3) fun b x q => kx b _ (fun _ z => by cases z) q⟩
/-- the box alone turns -/
theorem RelS.box {F : FH} {H : Hp} {w w' : Bx} {S : SL} {σ : L2.St} {xs : List V} (R : RelS g F0 H0 B F w S σ H) (b : BxOk g F w' (upd H g.bx (.lst xs))) : RelS g F0 H0 B F w' S σ (upd H g.bx (.lst xs)) := by
  have hF : ∀ a o, F a = some o → a ≠ g.bx := fun a o h e => by rw [e, R.rel.bx.no] at h; cases h
  have sub : Same F (upd H g.bx (.lst xs)) := fun a o h => by rw [upd_ne (hF a o h)]; exact R.rel.sub a o h
  refine ⟨⟨sub, b, R.rel.len, fun i s hs => ?_, R.rel.inj⟩, ⟨R.ext.ff, fun a o n nc nt h => ?_, fun a h => R.ext.dom a (upd_dom h), R.ext.new, R.ext.nad, sub, b, fun a od u h => ?_⟩, R.fl, R.fr⟩
  · obtain ⟨v, e1, e2⟩ := R.rel.sl i s hs
    refine ⟨v, e1, ?_⟩
    cases s with
    | dat d => exact e2
    | own ds =>
      obtain ⟨q, vs, e3, e4, e5, e6, e7⟩ := e2
      exact ⟨q, vs, e3, e4, e5, by rw [upd_ne e5]; exact e6, e7⟩
    | lam ls =>
      obtain ⟨p, vs, e3, e4, e5⟩ := e2
      obtain ⟨c0, hb0, _⟩ := R.rel.bx.at_
      exact ⟨p, vs, e3, e4, e5.upd hb0 fun _ z => by cases z⟩
    | ins c fs =>
      obtain ⟨C, vs, e3, hc, n1, n2, b1, b2, g1, g2, e7⟩ := e2
      exact ⟨C, vs, e3, hc, n1, n2, b1, b2, by rw [upd_ne b1]; exact g1, by rw [upd_ne b2]; exact g2, e7⟩
  · rw [upd_ne n]; exact R.ext.hh a o n nc nt h
  · obtain ⟨c0, hb0, _⟩ := R.rel.bx.at_
    have := R.ext.frz a od u h
    rw [upd_ne fun e => by rw [e, hb0] at this; cases this]; exact this
theorem ds_bx (i : Nat) (k : Int) {x : Str} {px pk tpos : Pos} {j : Nat} (ha : DE X g E a f) (hN : X.N[i]? = some x := by rfl) (hv : Vis X.env.scope x := by first | exact Or.inl rfl | exact Or.inr (Or.inl rfl) | exact Or.inr (Or.inr rfl)) (hd : (x == ("__debug__" : Str)) = false := by decide)
    (hcd : (x == ("__classdict__" : Str)) = false := by decide)
    (hq : ∀ (to ti te : TE), PE X (.Name x px) to → PE X (.Constant (.int k) j pk) ti → PE X a te → PS X (.Assign [.Subscript (.Name x px) (.Constant (.int k) j pk) tpos] a pos) (tAsg te (gSub to ti rSetL)) := by exact fun _ _ _ h1 h2 h3 => ps_asg h3 (pg_sub h1 h2 set_list)) :
    DS X g E F0 H0 (.Assign [.Subscript (.Name x px) (.Constant (.int k) j pk) tpos] a pos) (sBx i k f) := by
  obtain ⟨t, pa, r⟩ := ha.run
  refine ⟨_, hq _ _ _ (pe_var hN hv hd hcd) pe_int pa, fun N σ H F S w B R h => ?_⟩
  refine r σ H _ F S w R.rel (PostG.imp (PostS.to R h) fun d w1 _ h1 v H1 F1 x1 r1 => ?_)
  have R1 := R.ext' x1
  by_cases hb : isBox S i = true
  · rw [if_pos hb] at h1
    obtain ⟨u, e1, e2⟩ := R1.rel.sl i _ (isBox_at hb)
    cases e2
    obtain ⟨c, hB, hC⟩ := R1.rel.bx.at_
    have b1 := R1.rel.bx
    refine ⟨_, e1, ?_⟩
    cases r1 with
    | int n =>
      unfold bxPut at h1
      by_cases k1 : k = 1
      · subst k1
        simp only [if_true] at h1
        by_cases hn : 0 ≤ n
        · simp only [if_pos hn] at h1
          refine ⟨_, _, 1, 1, rfl, rfl, hB, rfl, h1 _ _ F1 (R1.box (b1.reb ⟨c, ?_, hC⟩ (b1.big0) (b1.mk0) (b1.mk1) (b1.nc)))⟩
          rw [upd_same]
          simp only [List.set]
          rw [show ((n.toNat : Nat) : Int) = n by omega]
        · simp only [if_neg hn] at h1; exact h1.elim
      · simp only [if_neg k1] at h1
        by_cases k2 : k = 2
        · subst k2
          simp only [if_true] at h1
          by_cases hn : 0 ≤ n
          · simp only [if_pos hn] at h1
            exact ⟨_, _, 2, 2, rfl, rfl, hB, rfl, h1 _ _ F1 (R1.box (b1.reb ⟨c, upd_same, hC⟩ (hn) (b1.mk0) (b1.mk1) (b1.nc)))⟩
          · simp only [if_neg hn] at h1; exact h1.elim
        · simp only [if_neg k2] at h1
          by_cases k3 : k = 3
          · subst k3
            simp only [if_true] at h1
            by_cases hn : 0 ≤ n ∧ n < 2147483647
            · simp only [if_pos hn] at h1
              exact ⟨_, _, 3, 3, rfl, rfl, hB, rfl, h1 _ _ F1 (R1.box (b1.reb ⟨c, upd_same, hC⟩ (b1.big0) (hn.1) (hn.2) (b1.nc)))⟩
            · simp only [if_neg hn] at h1; exact h1.elim
          · simp only [if_neg k3] at h1; exact h1.elim
    | _ => exact h1.elim
  · rw [if_neg hb] at h1; exact h1.elim
/-! ### a < b < c -/
end
end Y
namespace Y
open PySem PySem.Spec PyProof.Rows L2
/-! ### the module's constants -/
structure Glb (K : PySem.W.Frag) (mg : Str → Option Value) (x : Str) (d : D) : Prop where
  ex : ∃ v u, mg x = some u ∧ RelV v u ∧ ∀ (g : G) (F : FH), g.K = K → DR g F v d
theorem de_glb {X : Cx} {g : G} {E : EK} {x : Str} {d : D} {pos : Pos} (hK : g.K = X.K) (h : Glb X.K X.mg x d) (hg : Gl X x := by rfl) (hdb : (x == ("__debug__" : Str)) = false := by decide) : DE X g E (.Name x pos) (eC d) := by
  obtain ⟨v, u, h1, h2, h3⟩ := h.ex
  exact de_glob h1 h2 (fun F => h3 g F hK) hg hdb
/-! ### a def of the text -/
def Def (K : PySem.W.Frag) (mg : Str → Option Value) (x : Str) (st : Stmt) (ps : List Str) : Prop := ∃ f fd, Fun K x x st f fd ∧ mg x = some (.ref f) ∧ Binds K fd ps []
/-! ### the law's own head: the box is made, then the rest -/
def spOpen (K : PySem.W.Frag) : Sp := fun vs H Q _ => ∃ (a : Addr) (ns : List Int), vs = [.ref a] ∧ SqL K H a (ns.map V.int) ∧ ns.length ≤ 63 ∧
  ∀ (b c : Addr) (mk : Int) (H' : Hp), Same H H' → b ≠ c → H' b = some (.lst [.ref c, .int 0, .int 0, .int mk]) → H' c = some (.lst (ns.map V.int)) → 0 ≤ mk → mk < 2147483647 → Q (.ref b) H'
def spLaw (K : PySem.W.Frag) (tb : List (Addr × Str)) : Sp := fun vs H Q _ => ∃ (a : Addr) (ns : List Int), vs = [.ref a] ∧ SqL K H a (ns.map V.int) ∧ ns.length ≤ 63 ∧ LamX.Tabs tb H ∧ ∀ H', Q (.bl true) H'
def tSemS (K : PySem.W.Frag) (cls : CT) (cl : List (Str × Addr)) (E : EK) (m : SM) : TS := fun N σ H => ∃ bx F0 H0 B F S w, bx.2.2.2 = cl ∧ RelS ⟨K, cls, bx⟩ F0 H0 B F w S σ H ∧ PostS ⟨K, cls, bx⟩ F0 H0 B E N (m S w)
section
variable {P : Program} {w : World} {K : PySem.W.Frag} {mg : Str → Option Value} {base : Heap} {cls : CT}
theorem pss_sem {X : Cx} {E : EK} {sts : List Stmt} {m : SM} {cl : List (Str × Addr)} (h : ∀ bx F0 H0, bx.2.2.2 = cl → DSs X ⟨K, cls, bx⟩ E F0 H0 sts m) : PSs X sts (tSemS K cls cl E m) :=
  ⟨fun pins s σ H N I ⟨bx, F0, H0, B, F, S, w, hcl, R, q⟩ => let ⟨_, p, r⟩ := (h bx F0 H0 hcl).run; p.run pins s σ H N I (r N σ H F S w B R q)⟩
/-- the slots at the box's making: the script is not looked at again -/
def lawS (n : Nat) : SL := none :: some (.dat .box) :: List.replicate (n - 2) none
theorem lawS_get {n i : Nat} {sv : SV} (h : (lawS n)[i]? = some (some sv)) : i = 1 ∧ sv = .dat .box := by
  cases i with
  | zero => simp [lawS] at h
  | succ i =>
    cases i with
    | zero => simp [lawS] at h; exact ⟨rfl, h.symm⟩
    | succ i =>
      have h2 : (List.replicate (n - 2) (none : Option SV))[i]? = some (some sv) := h
      rw [List.getElem?_replicate] at h2
      split at h2 <;> cases h2
theorem law_of {x y : Str} {st fst : Stmt} {f : Addr} {fd : FuncData} {N : List Str} {k : Nat} {body : SM} {rest : List Stmt} (F : Fun K x x st f fd) (S : FnScope N [y] (defScope st)) (hN : ∃ N', N = y :: "_law_box" :: N')
    (hst : defBody st = fst :: rest)
    (hfirst : ∀ (cdv : Value) (A : Around) (outer : List Env) (s : Shared) (H : Hp) (E : XK), Room k (A.deeper (envOfC x (defScope st) s.heap.objs.size f cdv)) →
      PS (cxOf (L2N.CX P w) P w K mg base N x (defScope st) f cdv A outer s H E) fst (tAsg (tCall (spOpen K) [] E0 (tCons (tVar 0) tNil)) (gName 1)))
    (hbody : ∀ (cdv : Value), CodeIs K f cdv → ∀ (A : Around) (outer : List Env) (s : Shared) (H : Hp) (E : XK) (bx : BQ) (F0 : FH) (H0 : Hp), bx.2.2.2 = (envOfC x (defScope st) s.heap.objs.size f cdv).cells → Room k (A.deeper (envOfC x (defScope st) s.heap.objs.size f cdv)) →
      DSs (cxOf (L2N.CX P w) P w K mg base N x (defScope st) f cdv A outer s H E) ⟨K, cls, bx⟩ (kE E) F0 H0 rest body)
    (hm : ∀ w : Bx, w.st = [] → ∃ w', body (lawS N.length) w = .rt (.bl true) w') : FnOk P w K mg base (L2N.CX P w) (k + 1) f fd [y] (spLaw K cls.tb) := by
  obtain ⟨N', rfl⟩ := hN
  refine okC F S (fun vs H Q E h => ?_) (fun cdv hcv A outer s H vs Q E hr h => ?_)
  · obtain ⟨a, ns, rfl, _⟩ := h; rfl
  · obtain ⟨a, ns, rfl, hS, hl, ht, q⟩ := h
    rw [hst]
    refine ⟨_, pss_cons (hfirst cdv A outer s H E hr) (pss_sem (cl := (envOfC x (defScope st) s.heap.objs.size f cdv).cells) fun bx F0 H0 hcl => hbody cdv hcv A outer s H E bx F0 H0 hcl hr), ?_⟩
    refine ⟨.ref a, rfl, a, ns, rfl, hS, hl, fun b c mk H1 sm nbc hb hc m0 m1 => ?_⟩
    have hsub : Same (fun z => if z = c then some (HO.lst (ns.map V.int)) else none) H1 := fun z o h => by
      by_cases e : z = c
      · simp only [if_pos e] at h; rw [e, hc]; exact h
      · simp only [if_neg e] at h; cases h
    have hbx : BxOk ⟨K, cls, (b, 0, 0, (envOfC x (defScope st) s.heap.objs.size f cdv).cells)⟩ ⟨fun z => if z = c then some (HO.lst (ns.map V.int)) else none, fun _ => none⟩ ⟨ns, 0, 0, mk, []⟩ H1 :=
      ⟨⟨c, hb, by simp⟩, by simp [nbc], Int.le_refl 0, m0, m1, hl, fun i c h => by simp at h, (fun i a h => nomatch h), (fun i j a h => nomatch h), ht.ext sm, fun a ps h => by
        simp only at h
        split at h <;> cases h⟩
    refine ⟨(b, 0, 0, (envOfC x (defScope st) s.heap.objs.size f cdv).cells), _, H1, _, _, lawS (y :: "_law_box" :: N').length, ⟨ns, 0, 0, mk, []⟩, rfl, ⟨⟨hsub, hbx, ?_, fun i sv hsv => ?_, fun i j ds ds2 v h1 => ?_⟩, Ext.refl hsub hbx, FSame.refl _, fun i ds p h1 => ?_⟩, ?_⟩
    · simp [lawS, L2.start]
    · obtain ⟨rfl, rfl⟩ := lawS_get hsv
      exact ⟨.ref b, by simp [L2.start], DR.box (g := ⟨K, cls, (b, 0, 0, (envOfC x (defScope st) s.heap.objs.size f cdv).cells)⟩)⟩
    · cases (lawS_get h1).2
    · cases (lawS_get h1).2
    · obtain ⟨w', e⟩ := hm ⟨ns, 0, 0, mk, []⟩ rfl
      rw [e]
      intro v H' F' x r
      cases r
      exact q H'
end
theorem cx_false {P : Program} {w : World} {l : List Env} {H : Hp} {s : Shared} {e : Value} {s' : Shared} (h : L2N.CX P w l H s (fun _ _ _ => False) e s') : False := by
  obtain ⟨_, _, _, _, _, _, _, _, _, _, _, _, z⟩ := h
  exact z
/-! ### the box's making -/
theorem cut63 {ns : List Int} (h : ns.length ≤ 63) : cutV (ns.map V.int) none (some 63) = ns.map V.int := by
  unfold cutV
  rw [HT.sIx_none, show HT.sIx (ns.map V.int).length (ns.map V.int).length (some 63) = min 63 (ns.map V.int).length from HT.sIx_nat _ _ 63]
  rw [List.length_map, List.drop_zero, Nat.sub_zero]
  apply List.take_of_length_le
  rw [List.length_map]
  omega
end Y
namespace Y
open PySem PySem.Spec PyProof.Rows L2
/-! ### enumerate of a text -/
section
variable {X : Cx} {g : G} {E : EK} {a : Expr} {pos p : Pos} {fa : EM}
end
end Y
namespace Y
open PySem PySem.Spec PyProof.Rows L2
/-! ### a written dict of texts -/
def tabGet (t : List (Str × Str)) (z : Str) : Option Str := (t.find? fun p => p.1 == z).map (·.2)
def mTab (t : List (Str × Str)) : D → Option D
  | .str z => (tabGet t z).map D.str
  | _ => none
def mTabD (t : List (Str × Str)) : D → D → Option D
  | .str z, d => some (match tabGet t z with | some v => .str v | none => d)
  | _, _ => none
section
variable {X : Cx} {g : G} {E : EK} {b c : Expr} {fb fc : EM} {x : Str} {p pos apos : Pos} {t : List (Str × Str)}
end
end Y
namespace Y
open PySem PySem.Spec PyProof.Rows L2
/-! ### a text turned round -/
section
variable {X : Cx} {g : G} {E : EK} {e : Expr} {f : EM} {te : TE} {k : Nat} {p1 p2 p3 pos : Pos}
end
end Y
namespace Y
open PySem PySem.Spec PyProof.Rows L2
/-! ### a tuple of the module -/
/-! ### a written local dict of texts -/
theorem DRk.val {g : G} {F : FH} (k : Key) : ∀ {xs : List (Key × V)} {ds : List (Key × D)}, DRk g F xs ds → (∃ v d, valV xs k = some v ∧ (ds.find? fun kv => decide (kv.1 = k)).map (·.2) = some d ∧ DR g F v d) ∨ (valV xs k = none ∧ (ds.find? fun kv => decide (kv.1 = k)).map (·.2) = none)
  | _, _, .nil => .inr ⟨rfl, rfl⟩
  | _, _, .cons (n := n) (v := v) (d := d) r t => by
    by_cases e : n = k
    · exact .inl ⟨v, d, valV_pos e, by simp [List.find?_cons, e], r⟩
    · rw [valV_neg e, List.find?_cons_of_neg (by simpa using e)]
      exact DRk.val k t
section
variable {X : Cx} {g : G} {E : EK} {e a b c : Expr} {pos p apos : Pos} {fa fb fc f : EM}
def keyOf : D → Option Key
  | .int i => some (Sum.inl i)
  | .str s => some (Sum.inr s)
  | _ => none
def isDct : D → Bool
  | .dct _ => true
  | _ => false
def dGet (kvs : List (Key × D)) (k : Key) : Option D := (kvs.find? fun kv => decide (kv.1 = k)).map (·.2)
def mDGet2 (d k z : D) : Option D := match d with
  | .dct kvs => (keyOf k).map fun k => (dGet kvs k).getD z
  | _ => none
def eDGet2 (fa fb fc : EM) : EM := fun S w => (fa S w).bind fun d w1 => if isDct d then (fb S w1).bind fun k w2 => (fc S w2).bind fun z w3 => R.ofO (mDGet2 d k z) w3 else .bad
end
end Y
namespace Y
open PySem PySem.Spec PyProof.Rows L2
/-! ### objects that are not changed any more -/
def isObj (c m : Str) : D → Bool
  | .obj c' fs => decide (c' = c) && (fs.lookup m).isNone
  | _ => false
def isCls (c : Str) : D → Bool
  | .obj c' _ => decide (c' = c)
  | _ => false
section
variable {g : G} {F : FH}
theorem DR.isObj {c m : Str} {v : V} {d : D} (r : DR g F v d) (h : Y.isObj c m d = true) : ∃ a C dx fs, v = .ref a ∧ g.cls c = some C ∧ F a = some (.ins C dx fs) ∧ fs.lookup m = none := by
  cases r with
  | obj h1 h2 h3 rf =>
    unfold Y.isObj at h
    rw [Bool.and_eq_true, decide_eq_true_iff] at h
    obtain ⟨rfl, hm⟩ := h
    exact ⟨_, _, _, _, rfl, h3, h1, rf.lookup_none (Option.isNone_iff_eq_none.mp hm)⟩
  | _ => cases h
theorem DR.isCls {c : Str} {v : V} {d : D} (r : DR g F v d) (h : Y.isCls c d = true) : ∃ a C dx fs, v = .ref a ∧ g.cls c = some C ∧ F a = some (.ins C dx fs) := by
  cases r with
  | obj h1 h2 h3 rf =>
    have h : _ = c := of_decide_eq_true h
    subst h
    exact ⟨_, _, _, _, rfl, h3, h1⟩
  | _ => cases h
end
/-! ### methods -/
structure MthK (P : Program) (w : World) (K : PySem.W.Frag) (mg : Str → Option Value) (base : Heap) (cls : CT) (c m : Str) (k n : Nat) (mm : List D → Bx → R D) : Prop where
  ex : ∃ (C f : Addr) (fd : FuncData) (ps : List Str), cls c = some C ∧ Cls K C ∧ Meth K C m f ∧ FnOk P w K mg base (L2N.CX P w) k f fd ps (spM K cls n mm) ∧ Binds K fd ps []
def eMeth (c m : Str) (n : Nat) (mm : List D → Bx → R D) (fo : EM) (fs : AM) : EM := fun S w => (fo S w).bind fun d w1 => if isObj c m d then (fs S w1).bind fun ds w2 => if ds.length + 1 = n then mm (d :: ds) w2 else .bad else .bad
section
variable {X : Cx} {g : G} {E : EK} {e e2 a b o : Expr} {es : List Expr} {pos p p2 apos : Pos} {fa fb fo f : EM} {fs : AM} {x c m : Str} {k n : Nat} {mm : List D → Bx → R D}
theorem meth_run {E : XK} {C : Addr} {ta : TE} {t : TA} (hK : g.K = X.K) (hc : g.cls c = some C) (ro : ∀ σ H Q F S w, Rel g F w S σ H → Post g F H Q E (fo S w) → ta σ H Q) (ra : ∀ σ H Q F S w, Rel g F w S σ H → PostA g F H Q E (fs S w) → t σ H Q) :
    ∀ σ H Q F S w, Rel g F w S σ H → Post g F H Q E (eMeth c m n mm fo fs S w) → tMeth C m (spM X.K g.cls n mm) [] E ta t σ H Q := by
  intro σ H Q F S w R h
  refine ro σ H _ F S w R (PostG.imp (PostG.bind h) fun d w1 hd h1 v H1 F1 x1 r1 => ?_)
  clear hd
  by_cases hd : isObj c m d = true
  · rw [if_pos hd] at h1
    obtain ⟨q, C', dx, vs, rfl, hc', hq, hl⟩ := r1.isObj hd
    obtain rfl : C' = C := Option.some.inj (hc'.symm.trans hc)
    refine ⟨q, dx, vs, rfl, x1.sub _ _ hq, hl, ra σ H1 _ F1 S w1 (R.ext x1) (PostG.ext x1 (PostG.bind h1) fun ds w2 h2 us H2 F2 x2 r2 => ?_)⟩
    by_cases hn : ds.length + 1 = n
    · rw [if_pos hn] at h2
      show spM X.K g.cls n mm (.ref q :: (us ++ [])) H2 Q E
      rw [List.append_nil, ← hK]
      exact ⟨by rw [List.length_cons, r2.length]; exact hn, g.bq, F2, d :: ds, w2, x2.sub, x2.bx, .cons (r1.mono x2.ff) r2, Post.of (x1.trans x2) h2⟩
    · rw [if_neg hn] at h2; exact h2.elim
  · rw [if_neg hd] at h1; exact h1.elim
theorem de_meth0 {E : XK} (hK : g.K = X.K) (M : MthK X.prog X.w X.K X.mg X.base g.cls c m k n mm) (hr : Room k X.A) (hx : Passes (L2N.CX X.prog X.w) X E) (ho : DE X g (kE E) o fo)
    (ht : ∀ (sp : Sp) (C f : Addr) (fd : FuncData) (ps : List Str) (ta : TE), Cls X.K C → Meth X.K C m f → FnOk X.prog X.w X.K X.mg X.base (L2N.CX X.prog X.w) k f fd ps sp → Binds X.K fd ps [] → PE X o ta → Room k X.A → Passes (L2N.CX X.prog X.w) X E → PE X (.Call (.Attribute o m apos) [] [] pos) (tMeth C m sp [] E ta tNil) := by exact fun _ _ _ _ _ _ c hm F hb po hr hx => pe_meth0 po c hm F hr hb .nil hx) :
    DE X g (kE E) (.Call (.Attribute o m apos) [] [] pos) (eMeth c m n mm fo aNil) := by
  obtain ⟨C, f, fd, ps, hc, cl, hm, F, hb⟩ := M.ex
  obtain ⟨ta, pa, ra⟩ := ho.run
  exact ⟨_, ht _ C f fd ps ta cl hm F hb pa hr hx, meth_run hK hc ra fun σ H Q F S w R h => h [] H F R.ex .nil⟩
/-! ### fields -/
structure FldK (K : PySem.W.Frag) (cls : CT) (c f : Str) : Prop where
  ex : ∃ C, cls c = some C ∧ Cls K C ∧ NoAttr K C f
def fldD (c f : Str) : D → Option D
  | .obj c' fs => if c' = c then fs.lookup f else none
  | _ => none
theorem de_fld {f : Str} (M : FldK X.K g.cls c f) (ho : DE X g E o fo) (hb : attributeBase o f X.env (eval o X.env) = eval o X.env := by rfl) : DE X g E (.Attribute o f pos) (e1 (fldD c f) fo) := by
  obtain ⟨C, hc, cl, na⟩ := M.ex
  obtain ⟨ta, pa, ra⟩ := ho.run
  refine ⟨_, pe_fld pa hb, fun σ H Q F S w R h => ?_⟩
  refine ra σ H _ F S w R (PostG.imp (PostG.bind h) fun d w1 hd h1 v H1 F1 x1 r1 => ?_)
  clear hd
  obtain ⟨z, hz, q⟩ := post_ofO h1
  cases r1 with
  | @obj a' C' dx' c' fs' ds' h4 h2 h3 rf =>
    have hy : (if c' = c then ds'.lookup f else none) = some z := hz
    clear hz
    by_cases ec : c' = c
    · rw [if_pos ec] at hy
      subst ec
      obtain rfl := Option.some.inj (h3.symm.trans hc)
      obtain ⟨u, e1, e2⟩ := rf.lookup hy
      exact ⟨_, _, _, _, u, rfl, x1.sub _ _ h4, cl, na, e1, q _ _ _ x1 e2⟩
    · rw [if_neg ec] at hy; cases hy
  | _ => cases hz
/-! ### properties -/
end
end Y
namespace Y
open PySem PySem.Spec PyProof.Rows L2
/-! ### the same for another object that is made -/
structure GEq (g g' : G) : Prop where
  k : g.K = g'.K
  c : g.cls = g'.cls
  b : g.bx = g'.bx
theorem GEq.symm {g g' : G} (e : GEq g g') : GEq g' g := ⟨e.k.symm, e.c.symm, e.b.symm⟩
mutual
theorem DR.to {g g' : G} (e : GEq g g') {F : FH} : ∀ {v : V} {d : D}, DR g F v d → DR g' F v d
  | _, _, .non => .non
  | _, _, .bl b => .bl b
  | _, _, .int i => .int i
  | _, _, .str s => .str s
  | _, _, .lst h r => .lst h (DRs.to e r)
  | _, _, .tup h r => .tup (e.k ▸ h) (DRs.to e r)
  | _, _, .box => by rw [e.b]; exact .box
  | _, _, .obj h h2 h3 r => .obj h h2 (by rw [← e.c]; exact h3) (DRf.to e r)
  | _, _, .dct h r => .dct h (DRk.to e r)
  | _, _, .cel h => .cel h
theorem DRs.to {g g' : G} (e : GEq g g') {F : FH} : ∀ {v : List V} {d : List D}, DRs g F v d → DRs g' F v d
  | _, _, .nil => .nil
  | _, _, .cons h r => .cons (DR.to e h) (DRs.to e r)
theorem DRf.to {g g' : G} (e : GEq g g') {F : FH} : ∀ {v : List (Str × V)} {d : List (Str × D)}, DRf g F v d → DRf g' F v d
  | _, _, .nil => .nil
  | _, _, .cons h r => .cons (DR.to e h) (DRf.to e r)
theorem DRk.to {g g' : G} (e : GEq g g') {F : FH} : ∀ {v : List (Key × V)} {d : List (Key × D)}, DRk g F v d → DRk g' F v d
  | _, _, .nil => .nil
  | _, _, .cons h r => .cons (DR.to e h) (DRk.to e r)
end
theorem CellOk.to {g g' : G} (e : GEq g g') {F : FH} {H : Hp} {a : Addr} {c : Cell} (h : CellOk g F H a c) : CellOk g' F H a c := by
  cases c with
  | lst ds => obtain ⟨vs, e1, r⟩ := h; exact ⟨vs, e1, r.to e⟩
  | dct ds => obtain ⟨vs, e1, r⟩ := h; exact ⟨vs, e1, r.to e⟩
  | obj c ds => obtain ⟨C, dx, vs, e1, e2, e3, r⟩ := h; exact ⟨C, dx, vs, e1, e2, by rw [← e.c]; exact e3, r.to e⟩
  | lck ds => obtain ⟨vs, od, e1, r⟩ := h; exact ⟨vs, od, e1, r.to e⟩
theorem BxOk.to {g g' : G} (e : GEq g g') {F : FH} {H : Hp} {w : Bx} (b : BxOk g F w H) : BxOk g' F w H :=
  ⟨by rw [← e.b]; exact b.at_, by rw [← e.b]; exact b.no, b.big0, b.mk0, b.mk1, b.nc, fun i c h => let ⟨a, h1, h2, h3, h4⟩ := b.cel i c h; ⟨a, h1, h2, by rw [← e.b]; exact h3, h4.to e⟩, b.adl, b.inj, by rw [← e.c]; exact b.tabs, b.ntb⟩
theorem Ext.to {g g' : G} (e : GEq g g') {F F' : FH} {H H' : Hp} {w : Bx} (x : Ext g F H F' H' w) : Ext g' F H F' H' w := ⟨x.ff, by rw [← e.b]; exact x.hh, x.dom, x.new, x.nad, x.sub, x.bx.to e, x.frz⟩
theorem PErr.to {g g' : G} (e : GEq g g') {F : FH} {H : Hp} {E : XK} {c : Str} {fs : List (Str × D)} {w : Bx} (p : PErr g F H E c fs w) : PErr g' F H E c fs w :=
  fun cl a vs H' F' x n k l r => p cl a vs H' F' (x.to e.symm) n (by rw [e.c]; exact k) l (r.to e.symm)
theorem PostG.to {α : Type} {g g' : G} (e : GEq g g') {F : FH} {H : Hp} {E : XK} {Q : α → Bx → Prop} {r : R α} (p : PostG g F H E Q r) : PostG g' F H E Q r := by
  cases r with
  | ok a w => exact p
  | err c fs w => exact PErr.to e p
  | bad => exact p
/-! ### __init__ -/
def nEq (n : Nat) : Nat → Bool := fun i => i == n
def nLe (n : Nat) : Nat → Bool := fun i => Nat.ble i n
def spI (K : PySem.W.Frag) (cls : CT) (c : Str) (n : Nat → Bool) (m : List D → Bx → R (List (Str × D))) : Sp := fun vs H Q E => ∃ (x dx C : Addr) (args : List V) (H0 : Hp) (bx : BQ) (F : FH) (ds : List D) (w : Bx),
  vs = .ref x :: args ∧ n args.length = true ∧ cls c = some C ∧ H0 x = none ∧ H0 dx = none ∧ dx ≠ x ∧ H = upd (upd H0 dx (.own x)) x (.ins C dx []) ∧ Same F H0 ∧ BxOk ⟨K, cls, bx⟩ F w H0 ∧ DRs ⟨K, cls, bx⟩ F args ds ∧
  PostG ⟨K, cls, bx⟩ F H0 E (fun fs w' => ∀ (H' : Hp) (F' : FH) (us : List (Str × V)), Ext ⟨K, cls, bx⟩ F H0 F' H' w' → F'.free x → F'.free dx → H' x = some (.ins C dx us) → H' dx = some (.own x) → DRf ⟨K, cls, bx⟩ F' us fs → Q .non H') (m ds w)
def startI (n : Nat) (c : Str) (ds : List D) : SL := some (.ins c []) :: startS (n - 1) ds
def endI (c : Str) : RS → R (List (Str × D))
  | .nx S w => match S with
    | some (.ins c' fs) :: _ => if c' = c then .ok fs w else .bad
    | _ => .bad
  | .err _ c fs w => .err c fs w
  | _ => .bad
def runI (c : Str) (k n : Nat) (body : SM) : List D → Bx → R (List (Str × D)) := fun ds w => if ds.length + 1 = k then endI c (body (startI n c ds) w) else .bad
/-- __init__'s start -/
theorem relI_start {K : PySem.W.Frag} {cls : CT} {b x dx C : Addr} {c y : Str} {F : FH} {H0 : Hp} {w : Bx} {vs : List V} {ds : List D} {N : List Str} (hc : cls c = some C) (nx : H0 x = none) (nd : H0 dx = none) (ne : dx ≠ x) (s : Same F H0) (bo : BxOk ⟨K, cls, (b, x, dx, [])⟩ F w H0) (r : DRs ⟨K, cls, (b, x, dx, [])⟩ F vs ds) :
    RelS ⟨K, cls, (b, x, dx, [])⟩ F H0 F F w (startI (y :: N).length c ds) (start (y :: N) (.ref x :: vs)) (upd (upd H0 dx (.own x)) x (.ins C dx [])) := by
  have x1 : Ext ⟨K, cls, (b, x, dx, [])⟩ F H0 F (upd H0 dx (.own x)) w := Ext.own s bo nd
  have nx1 : (upd H0 dx (.own x)) x = none := by rw [upd_ne ne.symm]; exact nx
  have x2 : Ext ⟨K, cls, (b, x, dx, [])⟩ F H0 F (upd (upd H0 dx (.own x)) x (.ins C dx [])) w := x1.trans (Ext.own x1.sub x1.bx nx1)
  have R0 := rel_start (N := N) x2.sub x2.bx r
  have hst : start (y :: N) (.ref x :: vs) = some (.ref x) :: start N vs := by simp [L2.start]
  refine ⟨⟨x2.sub, x2.bx, ?_, fun i sv hsv => ?_, fun i j ds1 ds2 v h1 h2 => ?_⟩, x2, FSame.refl F, fun i ds1 p h1 => ?_⟩
  · rw [hst]
    show (startS N.length ds).length + 1 = _
    rw [R0.rel.len]; rfl
  · rw [hst]
    cases i with
    | zero =>
      have : sv = .ins c [] := by
        have h : some (some (SV.ins c [])) = some (some sv) := hsv
        injection h with h; injection h with h; exact h.symm
      subst this
      refine ⟨.ref x, rfl, C, [], rfl, hc, free_of s bo nx, free_of s bo nd, not_box bo nx, not_box bo nd, upd_same, ?_, .nil⟩
      rw [upd_ne ne]; exact upd_same
    | succ i => exact R0.rel.sl i sv hsv
  · cases i with
    | zero => cases h1
    | succ i =>
      cases j with
      | zero => cases h2
      | succ j =>
        intro h3 h4
        rw [hst] at h3 h4
        exact congrArg (· + 1) (R0.rel.inj i j ds1 ds2 v h1 h2 h3 h4)
  · cases i with
    | zero => cases h1
    | succ i =>
      intro h2
      rw [hst] at h2
      exact x2.dom p (R0.fr i ds1 p h1 h2)
section
variable {P : Program} {w : World} {K : PySem.W.Frag} {mg : Str → Option Value} {base : Heap} {cls : CT}
theorem ini_run {X : Cx} {c : Str} {y : Str} {N : List Str} {n : Nat} {sts : List Stmt} {m : List D → Bx → R (List (Str × D))} {body : SM} {vs : List V} {H : Hp} {Q : VK} {E : XK}
    (hbody : ∀ (b x dx : Addr) (F0 : FH) (H0 : Hp), H0 x = none → DSs X ⟨K, cls, (b, x, dx, [])⟩ (kE E) F0 H0 sts body) (hm : ∀ ds w, m ds w ≠ .bad → runI c (n + 1) (y :: N).length body ds w = m ds w) (h : spI K cls c (nEq n) m vs H Q E) :
    ∃ t, PSs X sts t ∧ t { nx := fun _ H' => Q .non H', rt := Q } (start (y :: N) vs) H := by
  obtain ⟨x, dx, C, args, H0, bx, F, ds, w0, rfl, hl, hc, nx, nd, ne, rfl, s, bo, rd, hp⟩ := h
  have ge : GEq ⟨K, cls, bx⟩ ⟨K, cls, (bx.1, x, dx, [])⟩ := ⟨rfl, rfl, rfl⟩
  obtain ⟨t, pt, rt⟩ := (hbody bx.1 x dx F H0 nx).run
  refine ⟨t, pt, rt _ _ _ F _ w0 F (relI_start hc nx nd ne s (bo.to ge) (rd.to ge)) ?_⟩
  have hnb : m ds w0 ≠ .bad := fun e => by rw [e] at hp; exact hp
  have e := hm ds w0 hnb
  rw [← e] at hp
  unfold runI at hp
  rw [if_pos (by rw [← rd.length, beq_iff_eq.mp hl])] at hp
  cases hbd : body (startI (y :: N).length c ds) w0 with
  | nx S1 w1 =>
    rw [hbd] at hp
    intro σ' H' F' R'
    match S1, hp, R' with
    | some (.ins c' fs) :: S2, hp, R' =>
      have hq : PostG _ F H0 E _ (if c' = c then R.ok fs w1 else .bad) := hp
      clear hp
      by_cases ec : c' = c
      · rw [if_pos ec] at hq
        subst ec
        obtain ⟨v, e1, C', us, e2, hc', n1, n2, _, _, g1, g2, rf⟩ := R'.rel.sl 0 _ rfl
        obtain rfl : C' = C := Option.some.inj (hc'.symm.trans hc)
        exact hq H' F' us (R'.ext.to ge.symm) n1 n2 g1 g2 (rf.to ge.symm)
      · rw [if_neg ec] at hq; exact hq.elim
    | [], hp, R' => exact hp.elim
    | none :: S2, hp, R' => exact hp.elim
    | some (.dat _) :: S2, hp, R' => exact hp.elim
    | some (.own _) :: S2, hp, R' => exact hp.elim
  | err S1 c fs w1 => rw [hbd] at hp; exact fun σ' H' F' R' cl a vs n k l r => PErr.to ge hp cl a vs H' F' R'.ext n k l r
  | rt d w1 => rw [hbd] at hp; exact hp.elim
  | bk S1 w1 => rw [hbd] at hp; exact hp.elim
  | ct S1 w1 => rw [hbd] at hp; exact hp.elim
  | bad => rw [hbd] at hp; exact hp.elim
/-- a class whose __init__ does m -/
structure IniK (P : Program) (w : World) (K : PySem.W.Frag) (mg : Str → Option Value) (base : Heap) (cls : CT) (c : Str) (k : Nat) (n : Nat → Bool) (m : List D → Bx → R (List (Str × D))) : Prop where
  ex : ∃ (C f : Addr), mg c = some (.ref C) ∧ cls c = some C ∧ Mk K C f ∧ FnR P w K mg base (L2N.CX P w) k f (spI K cls c n m)
theorem ini_of {E : XK} {x qual c y : Str} {st : Stmt} {C f : Addr} {fd : FuncData} {N ps : List Str} {k : Nat} {m : List D → Bx → R (List (Str × D))} {body : SM} (hmg : mg c = some (.ref C)) (hc : cls c = some C) (M : Mk K C f) (F : Fun K x qual st f fd) (S : FnScope (y :: N) (y :: ps) (defScope st)) (hb : Binds K fd (y :: ps) [])
    (hbody : ∀ (cdv : Value) (A : Around) (outer : List Env) (s : Shared) (H : Hp) (E : XK) (b x dx : Addr) (F0 : FH) (H0 : Hp), Room k (A.deeper (envOfC qual (defScope st) s.heap.objs.size f cdv)) → H0 x = none →
      DSs (cxOf (L2N.CX P w) P w K mg base (y :: N) qual (defScope st) f cdv A outer s H E) ⟨K, cls, (b, x, dx, [])⟩ (kE E) F0 H0 (defBody st) body)
    (hm : ∀ ds w, m ds w ≠ .bad → runI c (ps.length + 1) (y :: N).length body ds w = m ds w) : IniK P w K mg base cls c (k + 1) (nEq ps.length) m := by
  have G : FnOk P w K mg base (L2N.CX P w) (k + 1) f fd (y :: ps) (spI K cls c (nEq ps.length) m) := okXN F S (fun vs H Q E h => by
      obtain ⟨x, dx, C, args, H0, bx, F, ds, w0, rfl, hl, _⟩ := h
      rw [List.length_cons, beq_iff_eq.mp hl]; rfl) fun cdv A outer s H vs Q E hr h => ini_run (fun b x dx F0 H0 h0 => hbody cdv A outer s H E b x dx F0 H0 hr h0) hm h
  refine ⟨C, f, hmg, hc, M, (G.raw hb .nil).imp fun vs H Q E h => ?_⟩
  rw [List.append_nil]; exact h
end
/-! ### C(..) -/
def eMake (c : Str) (n : Nat → Bool) (m : List D → Bx → R (List (Str × D))) (fs : AM) : EM := fun S w => (fs S w).bind fun ds w1 => if n ds.length = true then (m ds w1).bind fun fl w2 => .ok (.obj c fl) w2 else .bad
section
variable {X : Cx} {g : G} {E : EK} {e a b o : Expr} {es : List Expr} {pos p p2 apos : Pos} {fs : AM} {x c : Str} {k : Nat} {n : Nat → Bool} {m : List D → Bx → R (List (Str × D))}
theorem make_run {E : XK} {C : Addr} {t : TA} (hK : g.K = X.K) (hc : g.cls c = some C) (ra : ∀ σ H Q F S w, Rel g F w S σ H → PostA g F H Q E (fs S w) → t σ H Q) :
    ∀ σ H Q F S w, Rel g F w S σ H → Post g F H Q E (eMake c n m fs S w) → StX.tMakeR C (spI X.K g.cls c n m) E t σ H Q := by
  intro σ H Q F S w R h
  refine ra σ H _ F S w R (PostG.imp (PostG.bind h) fun ds w1 _ h1 vs H1 F1 x1 r1 => ?_)
  intro x dx nx nd ne
  by_cases hn : n ds.length = true
  · rw [if_pos hn] at h1
    rw [← hK]
    refine ⟨x, dx, C, vs, H1, g.bq, F1, ds, w1, rfl, by rw [r1.length]; exact hn, hc, nx, nd, ne, rfl, x1.sub, x1.bx, r1, PostG.ext x1 (PostG.bind h1) fun fl w2 h2 H2 F2 us x2 n1 n2 e1 e2 rf => ⟨rfl, ?_⟩⟩
    have x12 := x1.trans x2
    have bx1 : x ≠ g.bx := not_box x1.bx nx
    have bx2 : dx ≠ g.bx := not_box x1.bx nd
    have nx0 := x1.fresh nx
    have nd0 := x1.fresh nd
    have x3 : Ext g F H (F2.upd dx (.own x)) H2 w2 := Ext.freeze x12 nd0 n2 e2 bx2
    have n3 : (F2.upd dx (.own x)).free x := n1.upd ne.symm
    have x4 : Ext g F H ((F2.upd dx (.own x)).upd x (.ins C dx us)) H2 w2 := Ext.freeze x3 nx0 n3 e1 bx1
    have s2 : FSame F2 ((F2.upd dx (.own x)).upd x (.ins C dx us)) := (FSame.upd n2.1).trans (FSame.upd n3.1)
    exact h2 _ _ _ x4 (.obj upd_same (by show upd (upd F2.fz dx (.own x)) x (.ins C dx us) dx = _; rw [upd_ne ne]; exact upd_same) hc (rf.mono s2))
  · rw [if_neg hn] at h1; exact h1.elim
theorem de_make {E : XK} (hK : g.K = X.K) (M : IniK X.prog X.w X.K X.mg X.base g.cls c k n m) (hr : Room (k + 1) X.A) (hx : Passes (L2N.CX X.prog X.w) X E) (ha : DA X g (kE E) (e :: es) fs) (hg : Gl X c := by rfl) (hdb : (c == ("__debug__" : Str)) = false := by decide)
    (he : starEach (e :: es) X.env = (false, eval e X.env) :: starEach es X.env := by rfl) (hpl : (backTo pos (starEach es X.env)).any (·.1) = false := by rfl) : DE X g (kE E) (.Call (.Name c p) (e :: es) [] pos) (eMake c n m fs) := by
  obtain ⟨C, f, hmg, hc, Mk, F⟩ := M.ex
  obtain ⟨t, pt, rt⟩ := ha.run
  exact ⟨_, StX.pe_makeR Mk F hr hg hmg hx pt hdb he hpl, make_run hK hc rt⟩
end
/-! ### self.f = e -/
def putD (f : Str) (v : D) : List (Str × D) → List (Str × D)
  | [] => [(f, v)]
  | (g, x) :: r => if g = f then (g, v) :: r else (g, x) :: putD f v r
theorem DRf.put {g : G} {F : FH} {f : Str} {v : V} {d : D} (r : DR g F v d) : ∀ {vs : List (Str × V)} {ds : List (Str × D)}, DRf g F vs ds → DRf g F (putF f v vs) (putD f d ds)
  | _, _, .nil => .cons r .nil
  | _, _, .cons (n := n) h t => by
    unfold putF putD
    by_cases e : n = f
    · rw [if_pos e, if_pos e]; exact .cons r t
    · rw [if_neg e, if_neg e]; exact .cons h (DRf.put r t)
theorem DRf.length {g : G} {F : FH} : ∀ {v : List (Str × V)} {d : List (Str × D)}, DRf g F v d → v.length = d.length
  | _, _, .nil => rfl
  | _, _, .cons _ r => congrArg (· + 1) r.length
def insAt (S : SL) (i : Nat) (c : Str) : Option (List (Str × D)) := match S[i]? with
  | some (some (.ins c' fs)) => if c' = c then some fs else none
  | _ => none
theorem insAt_some {S : SL} {i : Nat} {c : Str} {fs : List (Str × D)} (h : insAt S i c = some fs) : S[i]? = some (some (.ins c fs)) := by
  unfold insAt at h
  split at h
  · rename_i e
    split at h
    · rename_i ec; cases h; rw [e, ec]
    · cases h
  · cases h
def isIns : Option (Option SV) → Bool
  | some (some (.ins _ _)) => true
  | _ => false
def soleI (S : SL) (i : Nat) : Bool := (List.range S.length).all fun j => j == i || !isIns S[j]?
theorem soleI_ne {S : SL} {i j : Nat} {c : Str} {fs : List (Str × D)} (h : soleI S i = true) (hj : S[j]? = some (some (.ins c fs))) : j = i := by
  unfold soleI at h
  rw [List.all_eq_true] at h
  have := h j (List.mem_range.mpr (List.getElem?_eq_some_iff.mp hj).1)
  rw [hj] at this
  simpa [isIns] using this
def sFldI (i : Nat) (c f : Str) (fe : EM) : SM := fun S w => (fe S w).to S fun d w1 => match insAt S i c with
  | some fs => if fs.length < 1000 ∧ soleI S i = true then .nx (S.set i (some (.ins c (putD f d fs)))) w1 else .bad
  | none => .bad
section
variable {X : Cx} {g : G} {E : EK} {F0 : FH} {H0 : Hp} {B : FH} {e a b o : Expr} {es : List Expr} {pos p p2 apos : Pos} {fe : EM} {x c f : Str}
theorem RelS.mutI {F : FH} {H : Hp} {w : Bx} {S : SL} {σ : L2.St} {i : Nat} {us : List (Str × V)} {fs gs : List (Str × D)} {C : Addr} (R : RelS g F0 H0 B F w S σ H) (h0 : H0 g.me = none) (so : soleI S i = true) (hi : S[i]? = some (some (.ins c fs))) (hc : g.cls c = some C) (r : DRf g F us gs) :
    RelS g F0 H0 B F w (S.set i (some (.ins c gs))) σ (upd H g.me (.ins C g.md us)) := by
  have hl : i < S.length := (List.getElem?_eq_some_iff.mp hi).1
  obtain ⟨v, hs, C', ws, rfl, hc', n1, n2, b1, b2, g1, g2, _⟩ := R.rel.sl i _ hi
  have dm : g.md ≠ g.me := fun z => by rw [z, g1] at g2; cases g2
  have x : Ext g F0 H0 F (upd H g.me (.ins C g.md us)) w := Ext.mut R.ext h0 n1 b1 g1 (.inr (.inr ⟨_, _, _, rfl⟩))
  refine ⟨⟨x.sub, x.bx, by rw [List.length_set]; exact R.rel.len, fun j s hj => ?_, fun j k es1 es2 u h1 h2 h3 h4 => ?_⟩, x, R.fl, fun j es1 p h1 h2 => ?_⟩
  · rw [List.getElem?_set] at hj
    by_cases e : i = j
    · subst e
      rw [if_pos rfl, if_pos hl] at hj; cases hj
      exact ⟨_, hs, C, us, rfl, hc, n1, n2, b1, b2, upd_same, by rw [upd_ne dm]; exact g2, r⟩
    · rw [if_neg e] at hj
      obtain ⟨v, e1, e2⟩ := R.rel.sl j s hj
      refine ⟨v, e1, ?_⟩
      cases s with
      | dat d => exact e2
      | own zs =>
        obtain ⟨q2, ws, e3, e4, e5, e6, e7⟩ := e2
        exact ⟨q2, ws, e3, e4, e5, by rw [upd_ne fun z => by rw [z, g1] at e6; cases e6]; exact e6, e7⟩
      | lam ls =>
        obtain ⟨p, ws, e3, e4, e5⟩ := e2
        exact ⟨p, ws, e3, e4, e5.upd g1 fun _ z => by cases z⟩
      | ins c2 fs2 => exact absurd (soleI_ne so hj).symm e
  · have key : ∀ (j : Nat) (zs : List D), (S.set i (some (.ins c gs)))[j]? = some (some (.own zs)) → S[j]? = some (some (.own zs)) := fun j zs h => by
      rw [List.getElem?_set] at h
      by_cases e : i = j
      · rw [if_pos e] at h; split at h <;> cases h
      · rw [if_neg e] at h; exact h
    exact R.rel.inj j k es1 es2 u (key j es1 h1) (key k es2 h2) h3 h4
  · rw [List.getElem?_set] at h1
    by_cases e : i = j
    · rw [if_pos e] at h1; split at h1 <;> cases h1
    · rw [if_neg e] at h1; exact R.fr j es1 p h1 h2
theorem ds_fldI (i : Nat) {px tpos : Pos} (M : FldK X.K g.cls c f) (h0 : H0 g.me = none) (ha : DE X g E a fe) (hN : X.N[i]? = some x := by rfl) (hv : Vis X.env.scope x := by first | exact Or.inl rfl | exact Or.inr (Or.inl rfl) | exact Or.inr (Or.inr rfl)) (hd : (x == ("__debug__" : Str)) = false := by decide)
    (hcd : (x == ("__classdict__" : Str)) = false := by decide) (hs : swapsWith a (some (.Attribute (.Name x px) f tpos)) pos.line X.env = pure false := by rfl) : DS X g E F0 H0 (.Assign [.Attribute (.Name x px) f tpos] a pos) (sFldI i c f fe) := by
  obtain ⟨C, hc, cl, na⟩ := M.ex
  obtain ⟨t, pa, r⟩ := ha.run
  refine ⟨_, ps_fld (pe_var hN hv hd hcd) pa hs, fun N σ H F S w B R h => ?_⟩
  refine r σ H _ F S w R.rel (PostG.imp (PostS.to R h) fun d w1 hd' h1 v H1 F1 x1 r1 => ?_)
  have R1 := R.ext' x1
  cases ho : insAt S i c with
  | none => rw [ho] at h1; exact h1.elim
  | some fl =>
    rw [ho] at h1
    have hi := insAt_some ho
    by_cases hl : fl.length < 1000 ∧ soleI S i = true
    · simp only [if_pos hl] at h1
      obtain ⟨u, e1, C', vs, e2, hc', n1, n2, b1, b2, g1, g2, rf⟩ := R1.rel.sl i _ hi
      subst e2
      obtain rfl : C' = C := Option.some.inj (hc'.symm.trans hc)
      exact ⟨_, e1, g.me, C', g.md, vs, rfl, g1, cl, na, by rw [rf.length]; exact hl.1, h1 _ _ F1 (R1.mutI h0 hl.2 hi hc (rf.put r1))⟩
    · simp only [if_neg hl] at h1; exact h1.elim
end
end Y
namespace Y
open PySem PySem.Spec PyProof.Rows L2
/-! ### C(), C(*xs) -/
section
variable {X : Cx} {g : G} {E : EK} {e a b o : Expr} {es : List Expr} {pos p p2 apos : Pos} {fs : AM} {fa : EM} {x c : Str} {k : Nat} {n : Nat → Bool} {m : List D → Bx → R (List (Str × D))}
theorem pe_makeR0 {E : XK} {CX : CXT} {C f : Addr} {sp : Sp} (M : Mk X.K C f) (F : FnR X.prog X.w X.K X.mg X.base CX k f sp) (hr : Room (k + 1) X.A) (hg : Gl X x) (hm : X.mg x = some (.ref C)) (hx : Passes CX X E) (hdb : (x == ("__debug__" : Str)) = false := by decide) :
    PE X (.Call (.Name x p) [] [] pos) (StX.tMakeR C sp E tNil) := by
  refine ⟨fun pins s σ H Q I h => ?_⟩
  refine wpAny_Call_Name_kw (ld_glob I hg hm ?_ hdb)
  exact PySem.W.callWith_K0 (first := []) I.kIn M.kp (StX.run_makeR M F hr hx I .nil h)
theorem de_make0 {E : XK} (hK : g.K = X.K) (M : IniK X.prog X.w X.K X.mg X.base g.cls c k n m) (hr : Room (k + 1) X.A) (hx : Passes (L2N.CX X.prog X.w) X E) (hg : Gl X c := by rfl) (hdb : (c == ("__debug__" : Str)) = false := by decide) : DE X g (kE E) (.Call (.Name c p) [] [] pos) (eMake c n m aNil) := by
  obtain ⟨C, f, hmg, hc, Mk, F⟩ := M.ex
  exact ⟨_, pe_makeR0 Mk F hr hg hmg hx hdb, make_run hK hc fun σ H Q F S w R h => h [] H F R.ex .nil⟩
def tStar1 (K : PySem.W.Frag) (te : TE) : TA := fun σ H Q => te σ H fun y H1 => ∃ a xs, y = V.ref a ∧ (SqT K H1 a xs ∨ SqL K H1 a xs) ∧ Q xs H1
theorem pe_makeS {E : XK} {CX : CXT} {C f : Addr} {sp : Sp} {te : TE} {sp_ : Pos} (M : Mk X.K C f) (F : FnR X.prog X.w X.K X.mg X.base CX k f sp) (hr : Room (k + 1) X.A) (hg : Gl X x) (hm : X.mg x = some (.ref C)) (hx : Passes CX X E) (he : PE X e te) (hdb : (x == ("__debug__" : Str)) = false := by decide)
    (hst : starEach [.Starred e sp_] X.env = [(true, eval e X.env)] := by rfl) : PE X (.Call (.Name x p) [.Starred e sp_] [] pos) (StX.tMakeR C sp E (tStar1 X.K te)) := by
  refine ⟨fun pins s σ H Q I h => ?_⟩
  refine wpAny_Call_Name_kw (ld_glob I hg hm ?_ hdb)
  refine PySem.W.callWith_S (h₀ := X.base) I.ok.mod.kin M.kp (thn (he.run pins s σ H _ I h) fun v s1 ⟨y, H1, I1, ry, a, xs, ey, hxs, q⟩ => ?_) hst
  subst ey
  obtain rfl : v = Value.ref a := ry
  exact StX.star_any I1 hxs fun us s2 I2 rv => ⟨I2.kIn, StX.run_makeR M F hr hx I2 rv q⟩
def seqD : D → Option (List D)
  | .lst ds => some ds
  | .tup ds => some ds
  | _ => none
def aStar (f : EM) : AM := fun S w => (f S w).bind fun d w1 => R.ofO (seqD d) w1
theorem de_makeS {E : XK} {sp_ : Pos} (hK : g.K = X.K) (M : IniK X.prog X.w X.K X.mg X.base g.cls c k n m) (hr : Room (k + 1) X.A) (hx : Passes (L2N.CX X.prog X.w) X E) (ha : DE X g (kE E) e fa) (hg : Gl X c := by rfl) (hdb : (c == ("__debug__" : Str)) = false := by decide)
    (hst : starEach [.Starred e sp_] X.env = [(true, eval e X.env)] := by rfl) : DE X g (kE E) (.Call (.Name c p) [.Starred e sp_] [] pos) (eMake c n m (aStar fa)) := by
  obtain ⟨C, f, hmg, hc, Mk, F⟩ := M.ex
  obtain ⟨ta, pa, ra⟩ := ha.run
  refine ⟨_, pe_makeS Mk F hr hg hmg hx pa hdb hst, make_run hK hc fun σ H Q F S w R h => ?_⟩
  refine ra σ H _ F S w R (PostG.imp (PostG.bind h) fun d w1 hd h1 v H1 F1 x1 r1 => ?_)
  clear hd
  obtain ⟨z, hz, q⟩ := post_ofO' h1
  rw [← hK]
  cases r1 with
  | lst h r => cases hz; exact ⟨_, _, rfl, .inr (.inl (.inl (x1.sub _ _ h))), q _ _ _ x1 r⟩
  | tup h r => cases hz; exact ⟨_, _, rfl, .inl (same_T x1.sub h), q _ _ _ x1 r⟩
  | _ => cases hz
end
theorem cxUpN {P : Program} {w : World} : StX.CXUp (L2N.CX P w) := by
  rintro outer s H s2 H2 E e s' un kp ho ⟨a, B, H', cls, d, ea, fl, hok, ub, na, os, ag, he⟩
  refine ⟨a, B, H', cls, d, ea, fl, hok, ⟨fun b o q n hb => ub.keep b o (kp b o q) (un.free b o q n (by simp)) hb, fun b o q hb => ub.slot b o (kp b o q) hb, fun b o q n => ub.free b o (kp b o q) (un.free b o q n (by simp)),
    fun b o q hb => ub.there b o (kp b o q) hb, fun b xs q => ub.tups b xs (un.tups b xs q), fun b o xs q => ub.frzs b o xs (un.frzs b o xs q), fun b ps q => ?_⟩, na, os.trans ho, ag, he⟩
  obtain ⟨m1, e1⟩ := un.tbls b ps q
  obtain ⟨m2, e2⟩ := ub.tbls b _ e1
  exact ⟨m1 ++ m2, by rw [e2, Array.append_assoc]⟩
/-! ### def __init__(self, *rest) -/
section
variable {P : Program} {w : World} {K : PySem.W.Frag} {mg : Str → Option Value} {base : Heap} {cls : CT}
theorem ini_ofV {x qual c y z : Str} {st : Stmt} {C f : Addr} {fd : FuncData} {N : List Str} {k nmax : Nat} {m : List D → Bx → R (List (Str × D))} {body : SM} (hmg : mg c = some (.ref C)) (hc : cls c = some C) (M : Mk K C f) (F : Fun K x qual st f fd) (S : FnScope (y :: N) ([y] ++ [z]) (defScope st))
    (hb : ∀ (kV doc pm cdv ct : Value) (an : Option Addr) (us rest : List Value), us.length = [y].length → bindArgs (PySem.W.fnOf x qual (defArgs st) (defBody st) (defScope st) .none kV doc pm an cdv ct) ⟨us ++ rest, []⟩ = (newTuple rest >>= fun t => pure ([y].zip us ++ [(z, t)])))
    (hz : nmax ≤ sizeLine)
    (hbody : ∀ (cdv : Value) (A : Around) (outer : List Env) (s : Shared) (H : Hp) (E : XK) (b x dx : Addr) (F0 : FH) (H0 : Hp), Room k (A.deeper (envOfC qual (defScope st) s.heap.objs.size f cdv)) → H0 x = none →
      DSs (cxOf (L2N.CX P w) P w K mg base (y :: N) qual (defScope st) f cdv A outer s H E) ⟨K, cls, (b, x, dx, [])⟩ (kE E) F0 H0 (defBody st) body)
    (hm : ∀ ds w, m ds w ≠ .bad → runI c 2 (y :: N).length body [.tup ds] w = m ds w) : IniK P w K mg base cls c (k + 1) (nLe nmax) m := by
  obtain ⟨oc, od, kV, doc, pm, an, cdv, ct, osl, rfl, lk, hcd⟩ := F.ex
  have G := StX.fn_star (P := P) (w := w) (mg := mg) (base := base) (k := k) (ps := [y]) (pv := z) (CX := L2N.CX P w) (sp := spI K cls c (nEq 1) (fun ds w => match ds with | [.tup es] => m es w | _ => .bad)) lk hcd S cxUpN (fun us rest hl => hb _ _ _ _ _ _ us rest hl) fun A outer s H vs Q E hr h =>
    ini_run (fun b x dx F0 H0 h0 => hbody cdv A outer s H E b x dx F0 H0 hr h0) (fun ds w hn => by
      match ds, hn with
      | [.tup es], hn => exact hm es w hn) h
  refine ⟨C, f, hmg, hc, M, G.imp fun vs H Q E h => ?_⟩
  obtain ⟨x, dx, C', args, H0, bx, F, ds, w0, rfl, hl, hc', nx, nd, ne, rfl, s, bo, rd, hp⟩ := h
  refine ⟨[.ref x], args, rfl, rfl, Nat.le_trans (Nat.le_of_ble_eq_true hl) hz, fun p np => ?_⟩
  have px : p ≠ x := fun e => by rw [e, upd_same] at np; cases np
  have pd : p ≠ dx := fun e => by rw [e, upd_ne ne, upd_same] at np; cases np
  have np0 : H0 p = none := by rw [upd_ne px, upd_ne pd] at np; exact np
  have xl := Ext.lay (o := .tup args) s bo np0
  refine ⟨x, dx, C', [.ref p], upd H0 p (.tup args), bx, F.upd p (.tup args), [.tup ds], w0, rfl, rfl, hc', ?_, ?_, ne, ?_, xl.sub, xl.bx, .cons (.tup (.inl (.inl upd_same)) (rd.mono xl.ff)) .nil, PostG.ext xl hp fun fs w' q H' F' us x' => q H' F' us (xl.trans x')⟩
  · rw [upd_ne px.symm]; exact nx
  · rw [upd_ne pd.symm]; exact nd
  · funext a
    by_cases e1 : a = p
    · subst e1; rw [upd_same, upd_ne px, upd_ne pd, upd_same]
    · rw [upd_ne e1]
      by_cases e2 : a = x
      · subst e2; rw [upd_same, upd_same]
      · rw [upd_ne e2, upd_ne e2]
        by_cases e3 : a = dx
        · subst e3; rw [upd_same, upd_same]
        · rw [upd_ne e3, upd_ne e3, upd_ne e1]
end
/-! ### o(..) -/
section
variable {X : Cx} {g : G} {E : EK} {e a b o : Expr} {es : List Expr} {pos p p2 apos : Pos} {fs : AM} {fo : EM} {x c : Str} {k n : Nat} {mm : List D → Bx → R D}
theorem raw_spM {fd : FuncData} {ps : List Str} {f : Addr} (F : FnOk X.prog X.w X.K X.mg X.base (L2N.CX X.prog X.w) k f fd ps (spM X.K g.cls n mm)) (hb : Binds X.K fd ps []) : FnR X.prog X.w X.K X.mg X.base (L2N.CX X.prog X.w) k f (spM X.K g.cls n mm) :=
  (F.raw hb .nil).imp fun vs H Q E h => by rw [List.append_nil]; exact h
end
end Y
namespace Y
open PySem PySem.Spec PyProof.Rows L2
/-! ### static methods -/
section
variable {X : Cx} {g : G} {E : EK} {e a b o : Expr} {es : List Expr} {pos p p2 apos : Pos} {fs : AM} {fa fb fo : EM} {x c m : Str} {k n : Nat} {mm : List D → Bx → R D}
/-! ### a constant of a class -/
structure CstK (K : PySem.W.Frag) (mg : Str → Option Value) (c f : Str) (d : D) : Prop where
  ex : ∃ (C : Addr) (mc : Value) (v : V) (u : Value), mg c = some (.ref C) ∧ ClX.CRead K C mc ∧ ClX.CVal K C mc f v u ∧ ∀ (g : G) (F : FH), DR g F v d
theorem de_cst {f : Str} {d : D} (M : CstK X.K X.mg c f d) (hg : Gl X c := by rfl) (hdb : (c == ("__debug__" : Str)) = false := by decide) (hb : attributeBase (.Name c p) f X.env (eval (.Name c p) X.env) = eval (.Name c p) X.env := by rfl) :
    DE X g E (.Attribute (.Name c p) f pos) (eC d) := by
  obtain ⟨C, mc, v, u, hm, cr, cv, hd⟩ := M.ex
  exact ⟨_, ClX.pe_cval (pe_glob hg hm (v := .ref C) rfl hdb) hb, fun σ H Q F S w R h => ⟨C, mc, v, u, rfl, cr, cv, h _ _ _ R.ex (hd g F)⟩⟩
/-! ### an own operator -/
structure OpK (P : Program) (w : World) (K : PySem.W.Frag) (mg : Str → Option Value) (base : Heap) (cls : CT) (c dn : Str) (k : Nat) (mm : List D → Bx → R D) : Prop where
  ex : ∃ (C f : Addr) (fd : FuncData) (ps : List Str), cls c = some C ∧ PySem.W.selfFirst K C = true ∧ PySem.W.findIn K (.ref C) dn = some (some (.ref f)) ∧ PySem.W.isFn K (.ref f) = true ∧ FnOk P w K mg base (L2N.CX P w) k f fd ps (spM K cls 2 mm) ∧ Binds K fd ps []
def rOwn (C : Addr) (sp : Sp) (E : XK) : R2 := fun x y H Q => ∃ a b dx dy fs gs, x = .ref a ∧ y = .ref b ∧ H a = some (.ins C dx fs) ∧ H b = some (.ins C dy gs) ∧ sp [x, y] H Q E
theorem op_own {E : XK} {op : Operator} {C f : Addr} {sp : Sp} (F : FnR X.prog X.w X.K X.mg X.base (L2N.CX X.prog X.w) k f sp) (hr : Room k X.A) (hx : Passes (L2N.CX X.prog X.w) X E) (hc : PySem.W.selfFirst X.K C = true) (hs : PySem.W.findIn X.K (.ref C) (PySem.dunder op.info.2) = some (some (.ref f))) (hf : PySem.W.isFn X.K (.ref f) = true) :
    OpR X (binaryOp op) (rOwn C sp E) := by
  intro pins s σ H x y u v Q I rx ry h
  obtain ⟨a, b, dx, dy, fs, gs, rfl, rfl, ha, hb, q⟩ := h
  cases rx
  cases ry
  obtain ⟨mA, J, _⟩ := ins_get I.hok ha
  obtain ⟨mB, J', _⟩ := ins_get I.hok hb
  obtain ⟨od, J, _⟩ := J.look
  obtain ⟨od', J', _⟩ := J'.look
  obtain ⟨m, hF⟩ := I.fr
  refine PySem.W.binop_K hF I.ok.mod.kin J J'.type hc hs hf ?_
  refine wpAny_mono (wpAny_call (run_fnR (vs := [V.ref a, V.ref b]) F hr hx I (.cons rfl (.cons rfl .nil)) q)) (fun r s' hq => ?_) fun _ _ z => z
  obtain ⟨z, H', I', rz, qz⟩ := hq
  have key : EP X pins σ Q r s' := ⟨z, H', I', rz, qz⟩
  cases r with
  | notImplemented => cases z <;> first | (obtain ⟨t, e⟩ := rz; cases e) | cases rz
  | _ => exact key
def eOwn (c : Str) (mm : List D → Bx → R D) (fa fb : EM) : EM := fun S w => (fa S w).bind fun d w1 => (fb S w1).bind fun e w2 => if isCls c d && isCls c e then mm [d, e] w2 else .bad
theorem de_own {E : XK} {op : Operator} (hK : g.K = X.K) (M : OpK X.prog X.w X.K X.mg X.base g.cls c (PySem.dunder op.info.2) k mm) (hr : Room k X.A) (hx : Passes (L2N.CX X.prog X.w) X E) (ha : DE X g (kE E) a fa) (hb : DE X g (kE E) b fb) : DE X g (kE E) (.BinOp a op b pos) (eOwn c mm fa fb) := by
  obtain ⟨C, f, fd, ps, hc, sf, fi, hf, F, bi⟩ := M.ex
  obtain ⟨ta, pa, ra⟩ := ha.run
  obtain ⟨tb, pb, rb⟩ := hb.run
  refine ⟨_, pe_op (op_own (raw_spM (g := g) F bi) hr hx sf fi hf) pa pb, fun σ H Q F S w R h => ?_⟩
  refine ra σ H _ F S w R (PostG.imp (PostG.bind h) fun d w1 hd h1 v H1 F1 x1 r1 => ?_)
  refine rb σ H1 _ F1 S w1 (R.ext x1) (PostG.ext x1 (PostG.bind h1) fun e w2 h2 u H2 F2 x2 r2 => ?_)
  have x12 := x1.trans x2
  by_cases hd : (isCls c d && isCls c e) = true
  · rw [if_pos hd] at h2
    rw [Bool.and_eq_true] at hd
    have r1' := r1.mono x2.ff
    obtain ⟨q, C', dx, vs, ev, hc', hq⟩ := r1'.isCls hd.1
    obtain rfl : C' = C := Option.some.inj (hc'.symm.trans hc)
    obtain ⟨q2, C2, dx2, vs2, ev2, hc2, hq2⟩ := r2.isCls hd.2
    obtain rfl : C2 = C' := Option.some.inj (hc2.symm.trans hc)
    refine ⟨q, q2, dx, dx2, vs, vs2, ev, ev2, x2.sub _ _ hq, x2.sub _ _ hq2, ?_⟩
    rw [← hK]
    exact ⟨rfl, g.bq, F2, [d, e], w2, x2.sub, x2.bx, .cons r1' (.cons r2 .nil), Post.of x12 h2⟩
  · rw [if_neg hd] at h2; exact h2.elim
end
end Y
namespace Y
open PySem PySem.Spec PyProof.Rows L2
/-! ### super().m(..) as the first statement's value -/
/-- a def's block, where the def itself may be looked at -/
structure PSsF (X : Cx) (body st : List Stmt) (t : TS) : Prop where
  run : ∀ (pins : List (Addr × Obj)) (s : Shared) (σ : L2.St) (H : Hp) (D : Ends), Inv X pins σ H s → t D σ H → PySem.wpAt (model X.prog X.w) X.A (.func body X.env) (execs st X.env) (SP X pins D) X.xe s
theorem PSs.f {X : Cx} {body st : List Stmt} {t : TS} (h : PSs X st t) : PSsF X body st t := ⟨fun pins s σ H D I q => PySem.wpAt_of_wpAny (h.run pins s σ H D I q)⟩
/-! ### a def of the text that looks at its class -/
/-! ### .. over data -/
structure DSsF (X : Cx) (g : G) (E : EK) (F0 : FH) (H0 : Hp) (body st : List Stmt) (m : SM) : Prop where
  run : ∃ t, PSsF X body st t ∧ ∀ N σ H F S w B, RelS g F0 H0 B F w S σ H → PostS g F0 H0 B E N (m S w) → t N σ H
theorem DSs.f {X : Cx} {g : G} {E : EK} {F0 : FH} {H0 : Hp} {body st : List Stmt} {m : SM} (h : DSs X g E F0 H0 st m) : DSsF X g E F0 H0 body st m := let ⟨t, p, r⟩ := h.run; ⟨t, PSs.f p, r⟩
end Y
namespace PySem
open Sem (wp)
open AutoSeq1 (wpAny_loadPart')
theorem meets_enumerate_newU (l : Addr) (items : Array Value) (n : Nat) (dct : Option Addr) (sl : Array (Option Value)) :
    Meets (Builtin.«enumerate.__new__» ⟨[.type "enumerate", .ref l], []⟩) (fun _ R s => s.heap.get? l = some { cls := .type "tuple", dict := dct, data := .seq items n, slots := sl } ∧
      R (.ok (.ret (.ref (s.heap.push { cls := .type "tuple_iterator", data := .fields #[.ref l, .int 0 0] }).objs.size)))
        { s with heap := (s.heap.push { cls := .type "tuple_iterator", data := .fields #[.ref l, .int 0 0] }).push { cls := .type "enumerate", data := .fields #[.none, .bool false, .ref s.heap.objs.size, rawInt 0, .none, .none] } }) :=
  .of_wp fun prog w A R s h => by
    obtain ⟨hp, g, d, tk, os⟩ := s; obtain ⟨hl, h⟩ := h
    have hsub := sub_enumerate
    have hL : Heap.IsTuple (Shared.heap ⟨hp, g, d, tk, os⟩) l items := ⟨_, hl, rfl, n, rfl⟩
    wp_walk using wpAny_loadPart' hl
    refine wpAny_stack_any fun st => wpAny_pure ?_
    split
    · rename_i c _ _ _ _ _
      cases (c == Value.type "enumerate")
      · wp_walk using wpAny_loadPart' hl, wpAny_pyIter_tuple hL
        exact ⟨_, rfl, h⟩
      · wp_walk using wpAny_loadPart' hl, wpAny_pyIter_tuple hL
        exact ⟨_, rfl, h⟩
    · wp_walk using wpAny_loadPart' hl, wpAny_pyIter_tuple hL
      exact ⟨_, rfl, h⟩
theorem call_enumerate_tuple {prog : Program} {w : World} {A : Around} {E : Value → Shared → Prop} {s : Shared} {l : Addr} {items : Array Value} {Q : Value → Shared → Prop} (hL : s.heap.IsTuple l items)
    (h : ∀ h', IsEnum h' (s.heap.objs.size + 1) s.heap.objs.size 0 .none → h'.IsTupleIter s.heap.objs.size l 0 → h'.objs.size = s.heap.objs.size + 2 →
      (∀ b o, s.heap.get? b = some o → h'.get? b = some o) → Q (.ref (s.heap.objs.size + 1)) { s with heap := h' }) :
    wpAny (model prog w) A (call (.type "enumerate") [.ref l]) Q E s := by
  obtain ⟨⟨c, dct, dt, sl⟩, hl, hc, n, hd⟩ := hL
  replace hc : c = .type "tuple" := hc
  replace hd : dt = .seq items n := hd
  subst hc hd
  refine callType_new F.called_enumerate (by decide) (F.typeCall_enumerate_1 _) (F.newCall_enumerate_1 _) (fun obj => F.args_object_init_2 obj _) F.entry_enumerate_new
    (meets_enumerate_newU l items n dct sl) ⟨hl, ?_⟩
  have hz : (s.heap.push { cls := .type "tuple_iterator", data := .fields #[.ref l, .int 0 0] }).objs.size = s.heap.objs.size + 1 := Heap.size_push ..
  show _ ∧ _
  rw [hz]
  have he : IsEnum ((s.heap.push { cls := .type "tuple_iterator", data := .fields #[.ref l, .int 0 0] }).push
      { cls := .type "enumerate", data := .fields #[.none, .bool false, .ref s.heap.objs.size, rawInt 0, .none, .none] }) (s.heap.objs.size + 1) s.heap.objs.size 0 .none := by
    have := Heap.get?_push_size (s.heap.push { cls := .type "tuple_iterator", data := .fields #[.ref l, .int 0 0] })
      (o := { cls := .type "enumerate", data := .fields #[.none, .bool false, .ref s.heap.objs.size, rawInt 0, .none, .none] }) rfl
    rw [hz] at this; exact this
  refine ⟨⟨_, he, rfl⟩, h _ he ⟨_, Heap.get?_push_of_some _ (Heap.get?_push_size _ rfl), rfl, rfl⟩ (by rw [Heap.size_push, hz]) fun b o x => Heap.get?_push_of_some _ (Heap.get?_push_of_some _ x)⟩
end PySem
namespace Y
open PySem PySem.Spec PyProof.Rows L2
/-! ### enumerate of a tuple -/
def ItEu (K : PySem.W.Frag) (a : Addr) : It :=
  ⟨fun i H => ∃ (xs : List V) (x : V), SqT K H a xs ∧ xs[i]? = some x, fun i H v H' => ∃ T x, v = .ref T ∧ H T = none ∧ H' = upd H T (.tup [.int (i : Nat), x]) ∧ ∀ xs, SqT K H a xs → xs[i]? = some x, fun i H => ∃ xs : List V, SqT K H a xs ∧ xs.length = i⟩
theorem turn_eu {P : Program} {w : World} {K : PySem.W.Frag} {elts : List Expr} {kk : Nat} {tpos : Pos} (a e it : Addr) :
    Turn P w K (.Tuple elts kk tpos) (ItEu K a) [e, it] e (fun i h => (∃ old, IsEnum h e it ((i : Nat) : Int) old) ∧ h.IsTupleIter it a i ∧ e ≠ it ∧ a ≠ it ∧ a ≠ e) where
  mem := List.mem_cons_self ..
  obj := fun i h st b hb => by
    obtain ⟨⟨old, he⟩, ⟨o, ho, _, hd⟩, _⟩ := st
    rcases List.mem_cons.mp hb with z | z
    · subst z; exact ⟨_, he, fun v q => nomatch q⟩
    · cases List.mem_singleton.mp z; exact ⟨o, ho, fun v q => by rw [hd] at q; cases q⟩
  keep := fun i h h' st k => by
    obtain ⟨⟨old, he⟩, ⟨o, ho, r⟩, hne⟩ := st
    exact ⟨⟨old, k e (by simp) _ he⟩, ⟨o, k it (by simp) _ ho, r⟩, hne⟩
  item := by
    intro X hP hw hK hc i pins s σ H E I hf st hg
    subst hP hw hK
    obtain ⟨⟨old, he⟩, hit, hne, nai, nae⟩ := st
    obtain ⟨xs, x, hq, hx⟩ := hg
    obtain ⟨its, rv, p, hz⟩ := I.tuple hq
    obtain ⟨u, hu, ru⟩ := rv.get hx
    have hel : e < s.heap.objs.size := Heap.lt_size he
    have hil : it < s.heap.objs.size := by obtain ⟨_, q, _⟩ := hit; exact Heap.lt_size q
    have hne' : e ∉ [it, a] := fun z => by
      rcases List.mem_cons.mp z with z | z
      · exact hne z
      · exact nae (List.mem_singleton.mp z).symm
    have hlt : i < its.toArray.size := by
      rw [List.size_toArray]
      exact (List.getElem?_eq_some_iff.mp hu).1
    refine wpAny_pyNext_enum_itemD (Draws.tuple (A := X.A.in1) (I.ok.hd hc) it a nai its.toArray) he ⟨hit, p⟩ hlt hne hne' fun v h1 tk hv ho hit1 hT hsz hk => ?_
    have hv : v = u := by
      have hv : its.toArray[i]? = some v := hv
      rw [List.getElem?_toArray, hu] at hv
      exact (Option.some.inj hv).symm
    subst hv
    refine ⟨_, rfl, wpAny_letOwnedTupleGo_enum (s := { s with heap := h1, toks := tk + 1 }) ho fun h2 he2 sb => ?_⟩
    have hT2 := (sb.2 s.heap.objs.size (Nat.ne_of_gt hel)).trans hT
    have out : ∀ b, b ∉ [e, it] → b ≠ e ∧ b ≠ it := fun b hb => ⟨fun z => hb (by simp [z]), fun z => hb (by simp [z])⟩
    have new : ObjOk X.prog X.w (upd H s.heap.objs.size (.tup [.int (i : Nat), x])) h2 s.heap.objs.size (.tup [.int (i : Nat), x]) :=
      ⟨by show 2 ≤ sizeLine; decide, [.int i tk, v], .cons ⟨_, rfl⟩ (.cons ru .nil), ⟨_, hT2, rfl, _, rfl⟩⟩
    have I1 : L2.Inv X pins σ (upd H s.heap.objs.size (.tup [.int (i : Nat), x])) { s with heap := h2, toks := tk + 1 } :=
      I.turnedNew (ch := [e, it]) (fun b ob hb q => (sb.2 b (out b hb).1).trans (hk b ob (out b hb).1 (out b hb).2 q)) hf (Nat.le_refl _) new
    refine ⟨.ref s.heap.objs.size, _, I1, rfl, ⟨_, x, rfl, I.hok.fresh (Nat.le_refl _), rfl, fun ys hy => by rw [I.tuple_inj hy hq]; exact hx⟩, ⟨⟨_, by rw [show ((i + 1 : Nat) : Int) = (i : Int) + 1 by omega]; exact he2⟩, ?_, hne, nai, nae⟩, fun b hb => ?_⟩
    · obtain ⟨o, q, r⟩ := hit1.1
      exact ⟨o, (sb.2 it (Ne.symm hne)).trans q, r⟩
    · have hb' : b < s.heap.objs.size := by
        rcases List.mem_cons.mp hb with z | z
        · rw [z]; exact hel
        · rw [List.mem_singleton.mp z]; exact hil
      rw [upd_ne (Nat.ne_of_lt hb')]
      exact (hf b hb).1
  done := by
    intro X hP hw hK hc i pins s σ H E I hf st hg
    subst hP hw hK
    obtain ⟨⟨old, he⟩, hit, hne, nai, nae⟩ := st
    obtain ⟨xs, hq, hx⟩ := hg
    obtain ⟨its, rv, p, hz⟩ := I.tuple hq
    obtain ⟨f0, f1, f2, f3, f4, f5⟩ := hf it (by simp)
    have hsz : i = its.toArray.size := by rw [List.size_toArray, ← rv.length]; exact hx.symm
    subst hsz
    exact wpAny_pyNext_enum_endD (Draws.tuple (A := X.A.in1) (I.ok.hd hc) it a nai its.toArray) he ⟨hit, p⟩ fun h' eb => ⟨rfl, I.turned (t' := s.toks) (fun b o hb q => eb b o hb q) f0 f1 f3 f4 f5⟩
  self := fun A i s Q E st h => let ⟨⟨_, he⟩, _⟩ := st; wpAny_pyIter_enum he h
section
variable {X : Cx} {g : G} {E : EK} {a : Expr} {pos p : Pos} {fa : EM}
theorem yld_eu {F : FH} {a : Addr} {xs : List V} {ds : List D} (h : SqT g.K F a xs) (r : DRs g F xs ds) : Yld g F (ItEu g.K a) (numbered ds) := by
  refine ⟨fun i z F2 H2 s1 s2 hd => ?_, fun F2 H2 s1 s2 => ⟨xs, same_T s2 (same_T s1.fz h), by rw [r.length, num_len]⟩⟩
  obtain ⟨d, hd', rfl⟩ := num_get hd
  obtain ⟨v, hv, rv⟩ := r.get hd'
  have hs : SqT g.K H2 a xs := same_T s2 (same_T s1.fz h)
  refine ⟨⟨xs, v, hs, hv⟩, fun x H3 hy => ?_⟩
  obtain ⟨T, y, e1, n, e2, e3⟩ := hy
  have e4 := e3 xs hs
  rw [hv] at e4; cases e4
  exact .inr ⟨T, _, _, e1, n, e2, .cons (.int _) (.cons (rv.mono s1) .nil), rfl⟩
def enumT : D → Option (List D)
  | .tup ds => some (numbered ds)
  | _ => none
def iEnumT (f : EM) : AM := fun S w => (f S w).bind fun d w1 => R.ofO (enumT d) w1
theorem di_enumT {elts : List Expr} {kk : Nat} {tpos : Pos} (hK : g.K = X.K) (hm : X.mg "enumerate" = none) (ha : DE X g E a fa) (hg : Gl X "enumerate" := by rfl) (hs : starEach [a] X.env = [(false, eval a X.env)] := by rfl) :
    DI X g E (.Tuple elts kk tpos) (.Call (.Name "enumerate" p) [a] [] pos) (iEnumT fa) := by
  obtain ⟨ta, pa, ra⟩ := ha.run
  have pA : PA X [a] (tCons ta tNil) := pa_cons pa pa_nil (by rw [hs]; rfl)
  refine ⟨fun σ H Rq => tCons ta tNil σ H fun vs H1 => ∃ a xs, vs = [.ref a] ∧ SqT X.K H1 a xs ∧ Rq (ItEu X.K a) H1, ⟨fun pins s σ H Rq I h => ?_⟩, fun σ H Rq F S w R h => ?_⟩
  · refine Call_ (ld_blt I hg hm boot_enumerate (PyProof.Rows.callWith_type1 (thn (pA.run pos pins s σ H _ I h) fun us s1 ⟨vs, H1, I1, r1, a, xs, ex, hq, q⟩ => ?_) hs rfl))
    subst ex
    obtain ⟨u, rfl, ru⟩ := vals1 r1
    have two : ∀ b, b ∈ [s1.heap.objs.size + 1, s1.heap.objs.size] → FpOk X pins H1 b := fun b hb => by
      have hle : s1.heap.objs.size ≤ b := by
        rcases List.mem_cons.mp hb with z | z
        · omega
        · have := List.mem_singleton.mp z; omega
      exact I1.fpOk hle (I1.hok.fresh hle)
    cases ru
    obtain ⟨its, rv, p', hz⟩ := I1.tuple hq
    have hal : a < s1.heap.objs.size := by obtain ⟨o, ho, _⟩ := p'; exact Heap.lt_size ho
    exact call_enumerate_tuple p' fun h' he hit hsz hk => wpAny_pyIter_enum he ⟨_, _, _, _, H1, rfl, I1.kept (t' := s1.toks) hk, turn_eu a (s1.heap.objs.size + 1) s1.heap.objs.size, ⟨⟨.none, he⟩, hit, Nat.succ_ne_self _, Nat.ne_of_lt hal, Nat.ne_of_lt (Nat.lt_succ_of_lt hal)⟩, two, q⟩
  · refine ra σ H _ F S w R (PostG.imp (PostG.bind h) fun d w1 hd h1 v H1 F1 x1 r1 => ?_)
    clear hd
    obtain ⟨ds, hz, q⟩ := post_ofO' h1
    rw [← hK]
    cases r1 with
    | tup h r => cases hz; exact ⟨_, _, rfl, same_T x1.sub h, q _ H1 F1 x1 (yld_eu h r)⟩
    | _ => cases hz
end
/-! ### what is not reached -/
end Y
namespace Y
open PySem PySem.Spec PyProof.Rows L2
/-- the classes are names of the module -/
def clsOf (mg : Str → Option Value) (tb : List (Addr × Str)) : CT := ⟨fun c => match mg c with
  | some (.ref a) => some a
  | _ => none, tb⟩
theorem clsOf_eq {mg : Str → Option Value} {tb : List (Addr × Str)} {c : Str} {C : Addr} (h : mg c = some (.ref C)) : clsOf mg tb c = some C := by unfold clsOf; simp only; rw [h]
section
variable {P : Program} {w : World} {K : PySem.W.Frag} {mg : Str → Option Value} {base : Heap} {cls : CT}
theorem end_ok {g : G} {F0 : FH} {H : Hp} {E : XK} {Q : VK} {k n : Nat} {body : SM} {ds : List D} {w0 : Bx} {m : List D → Bx → R D} (hl : ds.length = k) (hm : ∀ ds w, m ds w ≠ .bad → runF k n body ds w = m ds w) (hp : Post g F0 H Q E (m ds w0)) :
    PostS g F0 H F0 (kE E) { nx := fun _ H' => Q .non H', rt := Q } (body (startS n ds) w0) := by
  have hnb : m ds w0 ≠ .bad := fun e => by rw [e] at hp; exact hp
  have e := hm ds w0 hnb
  rw [← e] at hp
  unfold runF at hp
  rw [if_pos hl] at hp
  cases hbd : body (startS n ds) w0 with
  | nx S1 w1 => simp only [hbd] at hp; exact fun σ' H' F' R' => hp .non H' F' R'.ext .non
  | rt d w1 => simp only [hbd] at hp; exact hp
  | bk S1 w1 => simp only [hbd] at hp; exact hp.elim
  | ct S1 w1 => simp only [hbd] at hp; exact hp.elim
  | err S1 c fs w1 => simp only [hbd] at hp; exact fun σ' H' F' R' cl a vs n k l r => hp cl a vs H' F' R'.ext n k l r
  | bad => simp only [hbd] at hp; exact hp
/-- a def or a method by its body -/
theorem fnok_of {x qual : Str} {st : Stmt} {f : Addr} {fd : FuncData} {N ps : List Str} {k : Nat} {m : List D → Bx → R D} {body : SM} (F : Fun K x qual st f fd) (S : FnScope N ps (defScope st))
    (hbody : ∀ (cdv : Value), CodeIs K f cdv → ∀ (A : Around) (outer : List Env) (s : Shared) (H : Hp) (E : XK) (bx : BQ) (F0 : FH), Room k (A.deeper (envOfC qual (defScope st) s.heap.objs.size f cdv)) →
      DSs (cxOf (L2N.CX P w) P w K mg base N qual (defScope st) f cdv A outer s H E) ⟨K, cls, bx⟩ (kE E) F0 H (defBody st) body)
    (hm : ∀ ds w, m ds w ≠ .bad → runF ps.length N.length body ds w = m ds w) : FnOk P w K mg base (L2N.CX P w) (k + 1) f fd ps (spM K cls ps.length m) := by
  refine okC F S (fun vs H Q E h => h.1) (fun cdv hcv A outer s H vs Q E hr h => ?_)
  obtain ⟨hl, bx, F0, ds, w0, s1, b1, rd, hp⟩ := h
  obtain ⟨t, pt, rt⟩ := (hbody cdv hcv A outer s H E bx F0 hr).run
  exact ⟨t, pt, rt _ (start N vs) H F0 (startS N.length ds) w0 F0 (rel_start s1 b1 rd) (end_ok (by rw [← rd.length]; exact hl) hm hp)⟩
/-! ### facts of a class's parts, as the head finds them -/
def MthF (K : PySem.W.Frag) (mg : Str → Option Value) (c m qual : Str) (st : Stmt) (ps : List Str) : Prop := ∃ C f fd, mg c = some (.ref C) ∧ Cls K C ∧ Meth K C m f ∧ Fun K m qual st f fd ∧ Binds K fd ps []
def OpF (K : PySem.W.Frag) (mg : Str → Option Value) (c dn qual : Str) (st : Stmt) (ps : List Str) : Prop := ∃ C f fd, mg c = some (.ref C) ∧ PySem.W.selfFirst K C = true ∧ PySem.W.findIn K (.ref C) dn = some (some (.ref f)) ∧ PySem.W.isFn K (.ref f) = true ∧ Fun K dn qual st f fd ∧ Binds K fd ps []
def IniF (K : PySem.W.Frag) (mg : Str → Option Value) (c qual : Str) (st : Stmt) : Prop := ∃ C f fd, mg c = some (.ref C) ∧ Mk K C f ∧ Fun K "__init__" qual st f fd
def IniB (K : PySem.W.Frag) (mg : Str → Option Value) (c qual : Str) (st : Stmt) (ps : List Str) : Prop := ∃ C f fd, mg c = some (.ref C) ∧ Mk K C f ∧ Fun K "__init__" qual st f fd ∧ Binds K fd ps []
def FldF (K : PySem.W.Frag) (mg : Str → Option Value) (c f : Str) : Prop := ∃ C, mg c = some (.ref C) ∧ Cls K C ∧ NoAttr K C f
theorem fldK {tb : List (Addr × Str)} {c f : Str} (h : FldF K mg c f) : FldK K (clsOf mg tb) c f := let ⟨C, h1, h2, h3⟩ := h; ⟨C, clsOf_eq h1, h2, h3⟩
end
/-! ### one of several classes -/
end Y
namespace Y
open PySem PySem.Spec PyProof.Rows L2
/-! ### a list or a tuple unpacked -/
def gSeqM (k : GMs) : GM := fun d S => match d with
  | .tup ds => k ds S
  | .lst ds => k ds S
  | _ => none
section
variable {X : Cx} {g : G} {pos : Pos}
theorem dg_seq {tgs : List Expr} {kk : Nat} {ns : List Nat} {k : GMs} {n : Nat} (hK : g.K = X.K) (h : DGs X g tgs ns k) (hq : ∀ u : TGs, PGs X tgs u → PG X (.Tuple tgs kk pos) (gTup X.K n u)) (hq2 : ∀ u : TGs, PGs X tgs u → PG X (.Tuple tgs kk pos) (gUnl X.K n u)) (hn : ∀ ds S S', k ds S = some S' → ds.length = n) : DG X g (.Tuple tgs kk pos) ns (gSeqM k) := by
  obtain ⟨t, p, r⟩ := h.run
  refine ⟨⟨fun v σ H Q => gTup X.K n t v σ H Q ∨ gUnl X.K n t v σ H Q, ⟨fun pins s σ H v u Q I rv hw => ?_⟩, fun v σ H Q F S w d S' R rd hm q => ?_⟩, fun d S S' i ds hm hj => ?_⟩
  · rcases hw with hw | hw
    · exact (hq t p).run pins s σ H v u Q I rv hw
    · exact (hq2 t p).run pins s σ H v u Q I rv hw
  · rw [← hK]
    cases rd with
    | tup hs rs => exact .inl ⟨_, _, rfl, same_T R.sub hs, by rw [rs.length]; exact hn _ _ _ hm, r _ σ H _ F S w _ S' R rs hm q⟩
    | lst hs rs => exact .inr ⟨_, _, rfl, .inl (.inl (R.sub _ _ hs)), by rw [rs.length]; exact hn _ _ _ hm, r _ σ H _ F S w _ S' R rs hm q⟩
    | _ => cases hm
  · cases d with
    | tup es => exact h.own es S S' i ds hm hj
    | lst es => exact h.own es S S' i ds hm hj
    | _ => cases hm
end
end Y
namespace Y
open PySem PySem.Spec PyProof.Rows L2
section
variable {X : Cx} {g : G} {E : EK} {e a b o : Expr} {es : List Expr} {pos p p2 apos : Pos} {fs : AM} {f fa fb fo : EM} {x c m : Str} {k n : Nat} {mm : List D → Bx → R D}
/-! ### isinstance of an own class -/
/-! ### == by an own __eq__ -/
theorem op_ownEq {E : XK} {C f : Addr} {sp : Sp} (F : FnR X.prog X.w X.K X.mg X.base (L2N.CX X.prog X.w) k f sp) (hr : Room k X.A) (hx : Passes (L2N.CX X.prog X.w) X E) (hs : PySem.W.findIn X.K (.ref C) "__eq__" = some (some (.ref f))) (hf : PySem.W.isFn X.K (.ref f) = true) :
    OpR X (compareOp .Eq) (rOwn C sp E) := by
  intro pins s σ H x y u v Q I rx ry h
  obtain ⟨a, b, dx, dy, fs, gs, rfl, rfl, ha, hb, q⟩ := h
  cases rx
  cases ry
  obtain ⟨mA, J, _⟩ := ins_get I.hok ha
  obtain ⟨mB, J', _⟩ := ins_get I.hok hb
  obtain ⟨od, J, _⟩ := J.look
  obtain ⟨od', J', _⟩ := J'.look
  obtain ⟨m, hF⟩ := I.fr
  show wpAny (model X.prog X.w) X.A (richCompare .Eq (.ref a) (.ref b)) (EP X pins σ Q) X.xe s
  refine PySem.W.cmp_K (op := .Eq) (tb := .ref C) hr.units0 hF I.ok.mod.kin J J'.type (by simp [PySem.W.notFirst]) hs hf ?_
  refine wpAny_mono (wpAny_call (run_fnR (vs := [V.ref a, V.ref b]) F hr hx I (.cons rfl (.cons rfl .nil)) q)) (fun r s' hq => ?_) fun _ _ z => z
  obtain ⟨z, H', I', rz, qz⟩ := hq
  have key : EP X pins σ Q r s' := ⟨z, H', I', rz, qz⟩
  cases r with
  | notImplemented => cases z <;> first | (obtain ⟨t, e⟩ := rz; cases e) | cases rz
  | _ => exact key
theorem own_run {E : XK} {C : Addr} (hK : g.K = X.K) {ta tb : TE} {f : Addr} (hc : g.cls c = some C) (ra : ∀ σ H Q F S w, Rel g F w S σ H → Post g F H Q E (fa S w) → ta σ H Q) (rb : ∀ σ H Q F S w, Rel g F w S σ H → Post g F H Q E (fb S w) → tb σ H Q) :
    ∀ σ H Q F S w, Rel g F w S σ H → Post g F H Q E (eOwn c mm fa fb S w) → ta σ H fun x H1 => tb σ H1 fun y H2 => rOwn C (spM X.K g.cls 2 mm) E x y H2 Q := by
  intro σ H Q F S w R h
  refine ra σ H _ F S w R (PostG.imp (PostG.bind h) fun d w1 hd h1 v H1 F1 x1 r1 => ?_)
  refine rb σ H1 _ F1 S w1 (R.ext x1) (PostG.ext x1 (PostG.bind h1) fun e w2 h2 u H2 F2 x2 r2 => ?_)
  have x12 := x1.trans x2
  by_cases hd : (isCls c d && isCls c e) = true
  · rw [if_pos hd] at h2
    rw [Bool.and_eq_true] at hd
    have r1' := r1.mono x2.ff
    obtain ⟨q, C', dx, vs, ev, hc', hq⟩ := r1'.isCls hd.1
    obtain rfl : C' = C := Option.some.inj (hc'.symm.trans hc)
    obtain ⟨q2, C2, dx2, vs2, ev2, hc2, hq2⟩ := r2.isCls hd.2
    obtain rfl : C2 = C' := Option.some.inj (hc2.symm.trans hc)
    refine ⟨q, q2, dx, dx2, vs, vs2, ev, ev2, x2.sub _ _ hq, x2.sub _ _ hq2, ?_⟩
    rw [← hK]
    exact ⟨rfl, g.bq, F2, [d, e], w2, x2.sub, x2.bx, .cons r1' (.cons r2 .nil), Post.of x12 h2⟩
  · rw [if_neg hd] at h2; exact h2.elim
theorem de_ownEq {E : XK} (hK : g.K = X.K) (M : OpK X.prog X.w X.K X.mg X.base g.cls c "__eq__" k mm) (hr : Room k X.A) (hx : Passes (L2N.CX X.prog X.w) X E) (ha : DE X g (kE E) a fa) (hb : DE X g (kE E) b fb) (hk : behindInMarks .Eq b = false := by first | exact nomark _ | rfl) : DE X g (kE E) (.Compare a [.Eq] [b] pos) (eOwn c mm fa fb) := by
  obtain ⟨C, f, fd, ps, hc, sf, fi, hf, F, bi⟩ := M.ex
  obtain ⟨ta, pa, ra⟩ := ha.run
  obtain ⟨tb, pb, rb⟩ := hb.run
  exact ⟨_, pe_cmpR (op_ownEq (raw_spM (g := g) F bi) hr hx fi hf) pa pb hk, own_run hK (f := f) hc ra rb⟩
end
theorem kit_self {K : PySem.W.Frag} {C : Addr} : PySem.W.kitOne K (.ref C) (.ref C) = some true := by unfold PySem.W.kitOne; rw [if_pos (by simp)]
end Y
namespace Y
open PySem PySem.Spec PyProof.Rows L2
section
variable {X : Cx} {g : G} {E : EK} {e a b o : Expr} {es : List Expr} {pos p p2 apos p1 p3 : Pos} {fs : AM} {f fa fb fo : EM} {x c m : Str} {k n : Nat} {mm : List D → Bx → R D} {te : TE}
/-! ### a list turned round -/
/-! ### own unary minus -/
end
end Y
namespace Y
open PySem PySem.Spec PyProof.Rows L2
/-! ### != by an own __eq__ -/
section
variable {M : Model} {prog : Program} {w : World} {A : Around} {E : Value → Shared → Prop} {s : Shared} {K : PySem.W.Frag} {x C f : Addr} {b : Value} {ox : Obj} {od : Option Obj}
theorem entry_neO {Q : Fin → Shared → Prop} (hu : A.units < cLine) (X : K.In s.heap) (I : PySem.W.InstAt s.heap x ox C od) (hs : PySem.W.findIn K (.ref C) "__eq__" = some (some (.ref f))) (hf : PySem.W.isFn K (.ref f) = true)
    (h : wpAny (model prog w) A (call (.ref f) [.ref x, b]) (fun v s' => ∃ r, v = .bool r ∧ Q (.done (.ret (.bool !r))) s') E s) : wpAny (model prog w) A (Builtin.«object.__ne__» ⟨[.ref x, b], []⟩) Q E s := by
  unfold Builtin.«object.__ne__»
  repeat (first | with_reducible refine wpAny_cRoomFor hu ?_ | with_reducible refine PySem.W.ifBound_K X I hs hf (wpAny_mono h (fun v s' hv => ?_) fun _ _ z => z) | wp_step)
  obtain ⟨r, rfl, q⟩ := hv
  repeat (first | with_reducible refine wpAny_truthy_bool ?_ | wp_step)
  exact q
theorem call_neO {Q : Value → Shared → Prop} (hu : A.in1.units < cLine) (X : K.In s.heap) (I : PySem.W.InstAt s.heap x ox C od) (hm : PySem.W.mroIn K C (.type "object") = some true) (hs : PySem.W.findIn K (.ref C) "__eq__" = some (some (.ref f))) (hf : PySem.W.isFn K (.ref f) = true)
    (h : wpAny (model prog w) A.in1 (call (.ref f) [.ref x, b]) (fun v s' => ∃ r, v = .bool r ∧ Q (.bool !r) s') E s) : wpAny (model prog w) A (call (.builtin "object.__ne__") [.ref x, b]) Q E s :=
  wpAny_call (codeAny_call_builtin F.cmp_object.ne.plain F.cmpEntry_ne (PySem.W.check_slot F.cmpKind_ne F.cmpSplit_ne (I.type.andThen (PySem.W.looks_mroIn X hm)) (F.cmpArgs_ne _ _) (entry_neO hu X I hs hf (wpAny_mono h (fun v s' ⟨r, e, q⟩ => ⟨r, e, q⟩) fun _ _ z => z))))
theorem cmp_neO {Q : Value → Shared → Prop} {tb : Value} (hu : A.units < cLine) (hu1 : A.in1.units < cLine) (X : K.In s.heap) (I : PySem.W.InstAt s.heap x ox C od) (hb : PySem.W.Looks (model prog w) s.heap (typeOf b) (.ref C)) (hm : PySem.W.mroIn K C (.type "object") = some true)
    (hn : PySem.W.findIn K (.ref C) "__ne__" = some (some (.builtin "object.__ne__"))) (hs : PySem.W.findIn K (.ref C) "__eq__" = some (some (.ref f))) (hf : PySem.W.isFn K (.ref f) = true)
    (h : wpAny (model prog w) A.in1 (call (.ref f) [.ref x, b]) (fun v s' => ∃ r, v = .bool r ∧ Q (.bool !r) s') E s) : wpAny (model prog w) A (richCompare .NotEq (.ref x) b) Q E s := by
  have bound : ∀ {Q' : Option Value → Shared → Prop}, wpAny (model prog w) A (call (.builtin "object.__ne__") [.ref x, b]) (fun v => Q' (some v)) E s → wpAny (model prog w) A (callSpecialIfBound? (.ref x) "__ne__" [b]) Q' E s := fun {Q'} h => by
    simp only [callSpecialIfBound?, bindSpecialIfBound?]
    refine wpAny_holding (wpAny_bind (wpAny_bind (wpAny_bind (I.type.here ((PySem.W.looks_findIn X hn).here ?_)))))
    refine wpAny_bind (wpAny_askSetting (wpAny_ite ?_))
    have fin : wpAny (model prog w) A (call (.builtin "object.__ne__") ([.ref x] ++ [b]) >>= fun v => pure (some v)) Q' E s := wpAny_bind (wpAny_mono h (fun v s' h' => wpAny_pure h') fun _ _ h' => h')
    split
    · exact wpAny_bind (wpAny_of_eq (F.cmp_object.ne.bind _) (wpAny_pure (by exact fin)))
    · exact wpAny_tryCatch (wpAny_bind (wpAny_of_eq (F.cmp_object.ne.bind _) (wpAny_pure (by exact fin))))
  have one : wpAny (model prog w) A (tryCompare (.ref x) "__ne__" b) (fun r s' => ∃ v, r = some v ∧ Q v s') E s := by
    unfold tryCompare
    refine wpAny_bind (bound (call_neO hu1 X I hm hs hf (wpAny_mono h (fun v s' ⟨r, e, q⟩ => ⟨r, e, ?_⟩) fun _ _ z => z)))
    exact wpAny_pure ⟨_, rfl, q⟩
  unfold richCompare
  simp only [oneThing_ref]
  refine wpAny_holding (wpAny_bind (wpAny_cRoomFor hu ?_))
  refine wpAny_bind (I.type.here (wpAny_bind (hb.here ?_)))
  rw [if_neg (by simp)]
  refine wpAny_bind (wpAny_pure ?_)
  simp only [Bool.false_eq_true, if_false]
  refine wpAny_bind (wpAny_mono one (fun r s' z => ?_) fun _ _ e => e)
  obtain ⟨v, rfl, hq⟩ := z
  exact wpAny_pure hq
end
section
variable {X : Cx} {g : G} {E : EK} {e a b o : Expr} {pos p p2 : Pos} {f fa fb fo : EM} {x c m : Str} {k n : Nat} {mm : List D → Bx → R D}
def rOwnN (C : Addr) (sp : Sp) (E : XK) : R2 := fun x y H Q => ∃ a b dx dy fs gs, x = .ref a ∧ y = .ref b ∧ H a = some (.ins C dx fs) ∧ H b = some (.ins C dy gs) ∧ sp [x, y] H (fun v H' => ∃ r, v = .bl r ∧ Q (.bl !r) H') E
theorem op_ownNe {E : XK} {C f : Addr} {sp : Sp} (F : FnR X.prog X.w X.K X.mg X.base (L2N.CX X.prog X.w) k f sp) (hr : Room (k + 1) X.A) (hx : Passes (L2N.CX X.prog X.w) X E) (hm : PySem.W.mroIn X.K C (.type "object") = some true) (hn : PySem.W.findIn X.K (.ref C) "__ne__" = some (some (.builtin "object.__ne__"))) (hs : PySem.W.findIn X.K (.ref C) "__eq__" = some (some (.ref f))) (hf : PySem.W.isFn X.K (.ref f) = true) :
    OpR X (compareOp .NotEq) (rOwnN C sp E) := by
  intro pins s σ H x y u v Q I rx ry h
  obtain ⟨a, b, dx, dy, fs, gs, rfl, rfl, ha, hb, q⟩ := h
  cases rx
  cases ry
  obtain ⟨mA, J, _⟩ := ins_get I.hok ha
  obtain ⟨mB, J', _⟩ := ins_get I.hok hb
  obtain ⟨od, J, _⟩ := J.look
  obtain ⟨od', J', _⟩ := J'.look
  show wpAny (model X.prog X.w) X.A (richCompare .NotEq (.ref a) (.ref b)) (EP X pins σ Q) X.xe s
  refine cmp_neO (tb := .ref C) hr.units0 hr.in1.units0 I.kIn J J'.type hm hn hs hf ?_
  have e0 : Env0 X.prog X.w X.K X.mg X.base X.A.in1 X.stack s H := by
    have e := I.env0
    exact ⟨e.frames, e.mod, e.bs, e.bsz, e.funs, e.frf, e.hok, e.bare⟩
  refine wpAny_call (codeAny_mono (F X.A.in1 X.stack s H [.ref a, .ref b] [.ref a, .ref b] _ E hr.in1 e0 (.cons rfl (.cons rfl .nil)) q) fun r s' hq => ?_)
  cases r with
  | error e => exact hx pins σ H s e s' I hq
  | ok fl =>
    cases fl with
    | ret u =>
      obtain ⟨z, H', I', rz, r, ez, qz⟩ := I.after hq
      subst ez
      cases rz
      exact ⟨r, rfl, .bl !r, H', I', rfl, qz⟩
    | next => exact False.elim hq
    | brk => exact False.elim hq
    | cont => exact False.elim hq
def negR : R D → R D
  | .ok (.bl b) w => .ok (.bl !b) w
  | _ => .bad
structure NeK (P : Program) (w : World) (K : PySem.W.Frag) (mg : Str → Option Value) (base : Heap) (cls : CT) (c : Str) (k : Nat) (mm : List D → Bx → R D) : Prop where
  ex : ∃ (C f : Addr) (fd : FuncData) (ps : List Str), cls c = some C ∧ PySem.W.mroIn K C (.type "object") = some true ∧ PySem.W.findIn K (.ref C) "__ne__" = some (some (.builtin "object.__ne__")) ∧ PySem.W.findIn K (.ref C) "__eq__" = some (some (.ref f)) ∧ PySem.W.isFn K (.ref f) = true ∧ FnOk P w K mg base (L2N.CX P w) k f fd ps (spM K cls 2 mm) ∧ Binds K fd ps []
def eOwnN (c : Str) (mm : List D → Bx → R D) (fa fb : EM) : EM := fun S w => (fa S w).bind fun d w1 => (fb S w1).bind fun e w2 => if isCls c d && isCls c e then negR (mm [d, e] w2) else .bad
theorem ownN_run {E : XK} {C : Addr} (hK : g.K = X.K) {ta tb : TE} (hc : g.cls c = some C) (ra : ∀ σ H Q F S w, Rel g F w S σ H → Post g F H Q E (fa S w) → ta σ H Q) (rb : ∀ σ H Q F S w, Rel g F w S σ H → Post g F H Q E (fb S w) → tb σ H Q) :
    ∀ σ H Q F S w, Rel g F w S σ H → Post g F H Q E (eOwnN c mm fa fb S w) → ta σ H fun x H1 => tb σ H1 fun y H2 => rOwnN C (spM X.K g.cls 2 mm) E x y H2 Q := by
  intro σ H Q F S w R h
  refine ra σ H _ F S w R (PostG.imp (PostG.bind h) fun d w1 hd h1 v H1 F1 x1 r1 => ?_)
  refine rb σ H1 _ F1 S w1 (R.ext x1) (PostG.ext x1 (PostG.bind h1) fun e w2 h2 u H2 F2 x2 r2 => ?_)
  have x12 := x1.trans x2
  by_cases hd : (isCls c d && isCls c e) = true
  · rw [if_pos hd] at h2
    rw [Bool.and_eq_true] at hd
    have r1' := r1.mono x2.ff
    obtain ⟨q, C', dx, vs, ev, hc', hq⟩ := r1'.isCls hd.1
    obtain rfl : C' = C := Option.some.inj (hc'.symm.trans hc)
    obtain ⟨q2, C2, dx2, vs2, ev2, hc2, hq2⟩ := r2.isCls hd.2
    obtain rfl : C2 = C' := Option.some.inj (hc2.symm.trans hc)
    refine ⟨q, q2, dx, dx2, vs, vs2, ev, ev2, x2.sub _ _ hq, x2.sub _ _ hq2, ?_⟩
    rw [← hK]
    refine ⟨rfl, g.bq, F2, [d, e], w2, x2.sub, x2.bx, .cons r1' (.cons r2 .nil), ?_⟩
    cases hmm : mm [d, e] w2 with
    | ok z w3 =>
      rw [hmm] at h2
      cases z with
      | bl t =>
        intro v H' F' x r
        cases r
        exact ⟨t, rfl, h2 (.bl !t) H' F' (x12.trans x) (.bl _)⟩
      | _ => exact h2.elim
    | _ => rw [hmm] at h2; exact h2.elim
  · rw [if_neg hd] at h2; exact h2.elim
theorem de_ownNe {E : XK} (hK : g.K = X.K) (M : NeK X.prog X.w X.K X.mg X.base g.cls c k mm) (hr : Room (k + 1) X.A) (hx : Passes (L2N.CX X.prog X.w) X E) (ha : DE X g (kE E) a fa) (hb : DE X g (kE E) b fb) (hk : behindInMarks .NotEq b = false := by first | exact nomark _ | rfl) : DE X g (kE E) (.Compare a [.NotEq] [b] pos) (eOwnN c mm fa fb) := by
  obtain ⟨C, f, fd, ps, hc, hmo, hne, fi, hf, F, bi⟩ := M.ex
  obtain ⟨ta, pa, ra⟩ := ha.run
  obtain ⟨tb, pb, rb⟩ := hb.run
  exact ⟨_, pe_cmpR (op_ownNe (raw_spM (g := g) F bi) hr hx hmo hne fi hf) pa pb hk, ownN_run hK hc ra rb⟩
end
def NeF (K : PySem.W.Frag) (mg : Str → Option Value) (c qual : Str) (st : Stmt) (ps : List Str) : Prop := ∃ C f fd, mg c = some (.ref C) ∧ PySem.W.mroIn K C (.type "object") = some true ∧ PySem.W.findIn K (.ref C) "__ne__" = some (some (.builtin "object.__ne__")) ∧ PySem.W.findIn K (.ref C) "__eq__" = some (some (.ref f)) ∧ PySem.W.isFn K (.ref f) = true ∧ Fun K "__eq__" qual st f fd ∧ Binds K fd ps []
end Y
namespace Y
open PySem PySem.Spec PyProof.Rows L2
/-! ### sum, max, min -/
section
variable {X : Cx} {g : G} {E : EK} {e : Expr} {es : List Expr} {pos p : Pos} {fs : AM}
end
end Y
namespace Y
open PySem PySem.Spec PyProof.Rows L2
/-! ### texts as lists of codes -/
def tx (l : List Nat) : Str := ⟨l.toArray⟩
@[simp] theorem tx_list (l : List Nat) : (tx l).cps.toList = l := by simp [tx]
@[simp] theorem tx_len (l : List Nat) : (tx l).length = l.length := by simp [tx, Str.length]
/-! the number of a sign in a text -/
/-! ### same data -/
def sameD : Nat → D → D → Bool
  | 0, _, _ => false
  | n + 1, d, e => match d, e with
    | .non, .non => true
    | .bl a, .bl b => a == b
    | .int a, .int b => a == b
    | .str a, .str b => a == b
    | .lst a, .lst b => (a.length == b.length && decide (a.length ≤ sizeN)) && (a.zip b).all fun p => sameD n p.1 p.2
    | .tup a, .tup b => (a.length == b.length && decide (a.length ≤ sizeN)) && (a.zip b).all fun p => sameD n p.1 p.2
    | _, _ => false
def mSame (n : Nat) : List D → Bx → R D := fun ds w => match ds with
  | [d, e] => if sameD n d e then .ok (.bl true) w else .bad
  | _ => .bad
end Y
namespace Y
open PySem PySem.Spec PyProof.Rows L2
/-! ### a meaning, step by step -/
theorem at_int {α : Type} {xs : List α} {r : Int} (h0 : 0 ≤ r) (hr : r.toNat < xs.length) : atI xs r = some xs[r.toNat] := by
  have h := atI_nat (List.getElem?_eq_getElem hr)
  rwa [Int.toNat_of_nonneg h0] at h
section
variable {S S1 : SL} {w w1 w2 w3 : Bx} {d e z : D} {ds es : List D} {m k : SM} {f fa fb : EM} {fs : AM} {t u : TM} {b : Bool} {i : Nat} {α : Type}
theorem x_seq {r : RS} (h : m S w = .nx S1 w1) (h2 : k S1 w1 = r) : sSeq m k S w = r := by unfold sSeq; rw [h]; exact h2
theorem x_seqR (h : m S w = .rt d w1) : sSeq m k S w = .rt d w1 := by unfold sSeq; rw [h]
theorem x_seqE {c : Str} {fs : List (Str × D)} (h : m S w = .err S1 c fs w1) : sSeq m k S w = .err S1 c fs w1 := by unfold sSeq; rw [h]
theorem x_ifT {r : RS} (h : t S w = .ok true w1) (h2 : m S w1 = r) : sIf t m k S w = r := by unfold sIf; rw [h]; exact h2
theorem x_ifF {r : RS} (h : t S w = .ok false w1) (h2 : k S w1 = r) : sIf t m k S w = r := by unfold sIf; rw [h]; exact h2
theorem x_set (h : f S w = .ok d w1) : sSet i f S w = .nx (S.set i (some (.dat d))) w1 := by unfold sSet; rw [h]; rfl
theorem x_ret (h : f S w = .ok d w1) : sRet f S w = .rt d w1 := by unfold sRet; rw [h]; rfl
theorem x_par {j : Nat} (h : fs S w = .ok [d, e] w1) : sPar i j fs S w = .nx ((S.set i (some (.dat d))).set j (some (.dat e))) w1 := by unfold sPar; rw [h]; rfl
theorem x_par3 {j l : Nat} (h : fs S w = .ok [d, e, z] w1) : sPar3 i j l fs S w = .nx (((S.set i (some (.dat d))).set j (some (.dat e))).set l (some (.dat z))) w1 := by unfold sPar3; rw [h]; rfl
theorem x_asg {gm : GM} (h : f S w = .ok d w1) (hg : gm d S = some S1) : sAsg f gm S w = .nx S1 w1 := by unfold sAsg; rw [h, R.to_ok, hg]
theorem x_bin {mo : D → D → Option D} (ha : fa S w = .ok d w1) (hb : fb S w1 = .ok e w2) (hm : mo d e = some z) : eBin mo fa fb S w = .ok z w2 := by unfold eBin; rw [ha, R.bind_ok, hb, R.bind_ok, hm]; rfl
theorem x_e1 {mo : D → Option D} (ha : fa S w = .ok d w1) (hm : mo d = some z) : e1 mo fa S w = .ok z w1 := by unfold e1; rw [ha, R.bind_ok, hm]; rfl
theorem x_B {mo : List D → Option D} (ha : fs S w = .ok ds w1) (hm : mo ds = some z) : eB mo fs S w = .ok z w1 := by unfold eB; rw [ha, R.bind_ok, hm]; rfl
theorem x_oB {mo : List D → Option (List D)} (ha : fs S w = .ok ds w1) (hm : mo ds = some es) : oB mo fs S w = .ok es w1 := by unfold oB; rw [ha, R.bind_ok, hm]; rfl
theorem x_nil : aNil S w = .ok [] w := rfl
theorem x_cons (ha : f S w = .ok d w1) (hr : fs S w1 = .ok ds w2) : aCons f fs S w = .ok (d :: ds) w2 := by unfold aCons; rw [ha, R.bind_ok, hr]; rfl
theorem x_call {n : Nat} {mm : List D → Bx → R D} {r : R D} (ha : fs S w = .ok ds w1) (hl : ds.length = n) (hm : mm ds w1 = r) : eCall n mm fs S w = r := by unfold eCall; rw [ha, R.bind_ok, if_pos hl, hm]
theorem x_tup (ha : fs S w = .ok ds w1) (hl : ds.length ≤ sizeN) : eTup fs S w = .ok (.tup ds) w1 := by unfold eTup; rw [ha, R.bind_ok, if_pos hl]
theorem x_lst (ha : fs S w = .ok ds w1) (hl : ds.length ≤ sizeN) : oLst fs S w = .ok ds w1 := by unfold oLst; rw [ha, R.bind_ok, if_pos hl]
theorem x_frz (ha : fs S w = .ok ds w1) : eFrz fs S w = .ok (.lst ds) w1 := by unfold eFrz; rw [ha]; rfl
theorem x_tOf (h : f S w = .ok (.bl b) w1) : tOf f S w = .ok b w1 := by unfold tOf; rw [h]; rfl
theorem x_notT (h : t S w = .ok true w1) : tNotM t S w = .ok false w1 := by unfold tNotM; rw [h]; rfl
theorem x_notF (h : t S w = .ok false w1) : tNotM t S w = .ok true w1 := by unfold tNotM; rw [h]; rfl
theorem x_enotT (h : fa S w = .ok (.bl true) w1) : eNotM fa S w = .ok (.bl false) w1 := by unfold eNotM; rw [x_tOf h]; rfl
theorem x_enotF (h : fa S w = .ok (.bl false) w1) : eNotM fa S w = .ok (.bl true) w1 := by unfold eNotM; rw [x_tOf h]; rfl
theorem rng_ok {q : Int} (h0 : 0 ≤ q) (h1 : q < 4611686018427387904) : rngOf [.int q] = some (upFrom 0 q.toNat) := by
  show (if -(2 ^ 62) ≤ q ∧ q < 2 ^ 62 then some (upFrom 0 q.toNat) else none) = _
  rw [if_pos ⟨by omega, by omega⟩]
theorem x_andT {r : R Bool} (h : t S w = .ok true w1) (h2 : u S w1 = r) : tAndM t u S w = r := by unfold tAndM; rw [h, R.bind_ok, if_pos rfl, h2]
theorem x_andF (h : t S w = .ok false w1) : tAndM t u S w = .ok false w1 := by unfold tAndM; rw [h]; rfl
theorem x_orT (h : t S w = .ok true w1) : tOrM t u S w = .ok true w1 := by unfold tOrM; rw [h]; rfl
theorem x_orF {r : R Bool} (h : t S w = .ok false w1) (h2 : u S w1 = r) : tOrM t u S w = r := by unfold tOrM; rw [h, R.bind_ok]; exact h2
theorem x_eandT {r : R D} (h : fa S w = .ok (.bl true) w1) (h2 : fb S w1 = r) : eAndM fa fb S w = r := by unfold eAndM; rw [x_tOf h, R.bind_ok, if_pos rfl, h2]
theorem x_eandF (h : fa S w = .ok (.bl false) w1) : eAndM fa fb S w = .ok (.bl false) w1 := by unfold eAndM; rw [x_tOf h]; rfl
theorem x_eorT (h : fa S w = .ok (.bl true) w1) : eOrM fa fb S w = .ok (.bl true) w1 := by unfold eOrM; rw [x_tOf h]; rfl
theorem x_eorF {r : R D} (h : fa S w = .ok (.bl false) w1) (h2 : fb S w1 = r) : eOrM fa fb S w = r := by unfold eOrM; rw [x_tOf h, R.bind_ok]; exact h2
theorem x_eifT {r : R D} (h : t S w = .ok true w1) (h2 : fa S w1 = r) : eIf t fa fb S w = r := by unfold eIf; rw [h, R.bind_ok, if_pos rfl, h2]
theorem x_eifF {r : R D} (h : t S w = .ok false w1) (h2 : fb S w1 = r) : eIf t fa fb S w = r := by unfold eIf; rw [h, R.bind_ok]; exact h2
theorem x_any (h : f S w = .ok d w1) (hi : itemsOf d = some ds) : iAny f S w = .ok ds w1 := by unfold iAny; rw [h, R.bind_ok, hi]; rfl
theorem x_by {mo : List D → Option (List D)} (h : fs S w = .ok ds w1) (hi : mo ds = some es) : iBy mo fs S w = .ok es w1 := by unfold iBy; rw [h, R.bind_ok, hi]; rfl
theorem x_pSome {n : Int} (h : f S w = .ok (.int n) w1) : pSome f S w = .ok (some n) w1 := by unfold pSome; rw [h]; rfl
theorem x_sl {lo hi : Option Int} {l h : SL → Bx → R (Option Int)} (ha : f S w = .ok d w1) (hl : l S w1 = .ok lo w2) (hh : h S w2 = .ok hi w3) (hm : mSl d lo hi = some z) : eSl f l h S w = .ok z w3 := by unfold eSl; rw [ha, R.bind_ok, hl, R.bind_ok, hh, R.bind_ok, hm]; rfl
theorem x_for {fi : AM} {gm : GM} {body : SM} {r : RS} (h : fi S w = .ok ds w1) (hl : forLoop gm body ds S w1 = r) : sFor fi gm body S w = r := by unfold sFor; rw [h]; exact hl
theorem x_sbx {n : Int} (h : f S w = .ok d w1) (hb : isBox S i = true) (hp : bxPut w1 n d = some w2) : sBx i n f S w = .nx S w2 := by unfold sBx; rw [h, R.to_ok, if_pos hb, hp]
/-- a comprehension whose elements are told one by one -/
theorem x_lc {fi : AM} {gm : GM} {tm : TM} {em : EM} {vs : List Nat} {r : R (List D)} (h : fi S w = .ok ds w1) (hl : ds.length ≤ sizeN) (hr : lcLoop gm tm em (wipeS S vs) ds w1 = r) : oLc fi gm tm em vs S w = r := by unfold oLc; rw [h, R.bind_ok, if_pos hl, hr]
theorem x_lcC {gm : GM} {tm : TM} {em : EM} (hg : gm d S = some S1) (ht : tm S1 w = .ok true w1) (he : em S1 w1 = .ok e w2) (hr : lcLoop gm tm em S ds w2 = .ok es w3) : lcLoop gm tm em S (d :: ds) w = .ok (e :: es) w3 := by
  unfold lcLoop; rw [hg]; simp only [ht, he, R.nx, R.bind_ok, if_true, hr]
/-- with draws: each element has the property -/
theorem x_lcP {gm : GM} {em : EM} (P : D → Prop) : ∀ (ds : List D) (w : Bx), (∀ x ∈ ds, ∀ w, ∃ S1 y w', gm x S = some S1 ∧ em S1 w = .ok y w' ∧ P y) → ∃ ys w', lcLoop gm tYesM em S ds w = .ok ys w' ∧ ys.length = ds.length ∧ ∀ y ∈ ys, P y
  | [], w, _ => ⟨[], w, rfl, rfl, fun _ h => nomatch h⟩
  | x :: ds, w, h => by
    obtain ⟨S1, y, w1, h1, h2, h3⟩ := h x (List.mem_cons_self ..) w
    obtain ⟨ys, w2, h4, h5, h6⟩ := x_lcP P ds w1 fun z hz => h z (List.mem_cons_of_mem _ hz)
    exact ⟨y :: ys, w2, x_lcC h1 rfl h2 h4, by rw [List.length_cons, List.length_cons, h5], fun z hz => (List.mem_cons.mp hz).elim (fun e => e ▸ h3) (h6 z)⟩
theorem x_run {n l : Nat} {body : SM} {ds : List D} (hl : ds.length = n) (h : body (startS l ds) w = .rt d w1) : runF n l body ds w = .ok d w1 := by unfold runF; rw [if_pos hl, h]
/-- a for whose turns go on, whatever is drawn -/
theorem x_forP {gm : GM} {body : SM} (I : SL → Prop) : ∀ (ds : List D) (S : SL) (w : Bx), I S → (∀ x ∈ ds, ∀ S w, I S → ∃ S1, gm x S = some S1 ∧ ∃ S2 w2, (body S1 w = .nx S2 w2 ∨ body S1 w = .ct S2 w2) ∧ I S2) → ∃ S2 w2, forLoop gm body ds S w = .nx S2 w2 ∧ I S2
  | [], S, w, h, _ => ⟨S, w, rfl, h⟩
  | x :: ds, S, w, h, hb => by
    obtain ⟨S1, h1, S2, w2, h2, h3⟩ := hb x (List.mem_cons_self ..) S w h
    obtain ⟨S3, w3, h4, h5⟩ := x_forP I ds S2 w2 h3 fun y hy => hb y (List.mem_cons_of_mem _ hy)
    refine ⟨S3, w3, ?_, h5⟩
    show (match gm x S with | none => RS.bad | some S1 => _) = _
    rw [h1]
    rcases h2 with h2 | h2
    · simp only [h2]; exact h4
    · simp only [h2]; exact h4
end
end Y

namespace Y
open PySem PySem.Spec PyProof.Rows L2
theorem x_same {n : Nat} {d e : D} {w : Bx} (h : sameD n d e = true) : mSame n [d, e] w = .ok (.bl true) w := by
  show (if sameD n d e then R.ok (D.bl true) w else .bad) = _
  rw [if_pos h]
theorem lsz {n m : Nat} (h : Nat.ble n m = true) : n ≤ m := Nat.le_of_ble_eq_true h
theorem lit_ab : ("ab" : Str) = tx [97, 98] := by decide +kernel
theorem lit_a : ("a" : Str) = tx [97] := by decide +kernel
theorem lit_b : ("b" : Str) = tx [98] := by decide +kernel
end Y
namespace Y
open PySem PySem.Spec PyProof.Rows L2
/-! ### where a sign stands -/
end Y
namespace Y
open PySem PySem.Spec PyProof.Rows L2
/-! ### a little evaluator -/
def isT : Option D → Bool
  | some (.bl true) => true
  | _ => false
def isF : Option D → Bool
  | some (.bl false) => true
  | _ => false
theorem of_isT {o : Option D} (h : isT o = true) : o = some (.bl true) := by
  unfold isT at h
  split at h
  · rfl
  · cases h
theorem of_isF {o : Option D} (h : isF o = true) : o = some (.bl false) := by
  unfold isF at h
  split at h
  · rfl
  · cases h
section
variable {S : SL} {w w1 w2 w3 : Bx} {d e z : D} {i : Nat}
theorem x_var (h : S[i]? = some (some (.dat d))) : eVar i S w = .ok d w := by unfold eVar; rw [h]
theorem x_C : eC d S w = .ok d w := rfl
theorem x_pN : pNone S w = .ok none w := rfl
theorem x_skip : sNil S w = .nx S w := rfl
end
structure Stuck (p : Prop) : Prop where
  h : p
theorem st_eq {a b : D} {o : Option D} (s : Stuck (mEq a b = o)) : mEq a b = o := s.h
theorem st_ne {a b : D} {o : Option D} (s : Stuck (mNe a b = o)) : mNe a b = o := s.h
theorem st_in {a b : D} {o : Option D} (s : Stuck (mIn a b = o)) : mIn a b = o := s.h
theorem st_nin {a b : D} {o : Option D} (s : Stuck (mNotIn a b = o)) : mNotIn a b = o := s.h
theorem st_tab {t : List (Str × Str)} {a : D} {o : Option D} (s : Stuck (mTab t a = o)) : mTab t a = o := s.h
theorem st_tabD {t : List (Str × Str)} {a b : D} {o : Option D} (s : Stuck (mTabD t a b = o)) : mTabD t a b = o := s.h
theorem tqO {a b : Option D} (h : a = b) : a = b := h
theorem tqN {a b : Nat} (h : a = b) : a = b := h
theorem tqB {a b : Bool} (h : a = b) : a = b := h
theorem tqD {a b : D} (h : a = b) : a = b := h
theorem tqL {a b : Option (List D)} (h : a = b) : a = b := h
theorem x_tupZ {fs : AM} {S : SL} {w w1 : Bx} {ds : List D} {z : D} (ha : fs S w = .ok ds w1) (hl : ds.length ≤ sizeN) (hz : D.tup ds = z) : eTup fs S w = .ok z w1 := hz ▸ x_tup ha hl
/-! ### texts -/
/-! ### edits -/
structure Pl where
  c : Nat
  n : Nat
  fr : Bool
inductive Kd where
  | bef (c : Nat) | aft (c : Nat) | rem | flp
inductive Ed where
  | keep | pre (c : Nat) | app (c : Nat) | at_ (k : Kd) (p : Pl)
def endS (fr : Bool) : Str := if fr then "front" else "back"
def placeD (c n : Nat) (fr : Bool) : D := .tup [.str (tx [c]), .int (n : Int), .str (endS fr)]
def plD (p : Pl) : D := placeD p.c p.n p.fr
def edD : Ed → D
  | .keep => .tup [.str "keep"]
  | .pre c => .tup [.str "prepend", .str (tx [c])]
  | .app c => .tup [.str "append", .str (tx [c])]
  | .at_ (.bef c) p => .tup [.str "before", plD p, .str (tx [c])]
  | .at_ (.aft c) p => .tup [.str "after", plD p, .str (tx [c])]
  | .at_ .rem p => .tup [.str "remove", plD p]
  | .at_ .flp p => .tup [.str "flip", plD p]
def AB (c : Nat) : Prop := c = 97 ∨ c = 98
instance (c : Nat) : Decidable (AB c) := inferInstanceAs (Decidable (_ ∨ _))
def PlOk (p : Pl) : Prop := AB p.c ∧ 0 < p.n ∧ p.n ≤ 3
def KdOk : Kd → Prop
  | .bef c => AB c
  | .aft c => AB c
  | _ => True
def EdOk : Ed → Prop
  | .keep => True
  | .pre c => AB c
  | .app c => AB c
  | .at_ k p => KdOk k ∧ PlOk p
def flipC (c : Nat) : Nat := if c = 97 then 98 else 97
def piece : Kd → Nat → List Nat
  | .bef c, s => [c, s]
  | .aft c, s => [s, c]
  | .rem, _ => []
  | .flp, s => [flipC s]
end Y
namespace Y
open PySem PySem.Spec PyProof.Rows L2
/-! ### exchanged edits -/
end Y
namespace Y
open PySem PySem.Spec PyProof.Rows L2
/-! ### mirrored edits -/
end Y
namespace Y
open PySem PySem.Spec PyProof.Rows L2
theorem x_dget2 {fa fb fc : EM} {S : SL} {w w1 w2 w3 : Bx} {kvs : List (Key × D)} {k z r : D} (ha : fa S w = .ok (.dct kvs) w1) (hb : fb S w1 = .ok k w2) (hc : fc S w2 = .ok z w3) (hm : mDGet2 (.dct kvs) k z = some r) : eDGet2 fa fb fc S w = .ok r w3 := by
  unfold eDGet2
  rw [ha, R.bind_ok, if_pos (show isDct (.dct kvs) = true from rfl), hb, R.bind_ok, hc, R.bind_ok, hm]; rfl
/-! ### like data are told to be the same -/
def plainD : Nat → D → Prop
  | 0, _ => False
  | n + 1, d => match d with
    | .non => True
    | .bl _ => True
    | .int _ => True
    | .str _ => True
    | .lst a => a.length ≤ 16777216 ∧ ∀ x ∈ a, plainD n x
    | .tup a => a.length ≤ 16777216 ∧ ∀ x ∈ a, plainD n x
    | _ => False
theorem zip_all (f : D → D → Bool) : ∀ (l : List D), (∀ x ∈ l, f x x = true) → ((l.zip l).all fun p => f p.1 p.2) = true
  | [], _ => rfl
  | a :: l, h => by
    rw [List.zip_cons_cons, List.all_cons, Bool.and_eq_true]
    exact ⟨h a (List.mem_cons_self ..), zip_all f l fun x hx => h x (List.mem_cons_of_mem _ hx)⟩
theorem same_refl : ∀ (n : Nat) (d : D), plainD n d → sameD n d d = true
  | 0, _, h => h.elim
  | n + 1, d, h => by
    have key : ∀ a : List D, a.length ≤ 16777216 ∧ (∀ x ∈ a, plainD n x) → ((a.length == a.length && decide (a.length ≤ sizeN)) && (a.zip a).all fun p => sameD n p.1 p.2) = true := fun a h => by
      rw [Bool.and_eq_true, Bool.and_eq_true]
      exact ⟨⟨beq_self_eq_true _, decide_eq_true h.1⟩, zip_all _ a fun x hx => same_refl n x (h.2 x hx)⟩
    cases d with
    | non => rfl
    | bl b => simp [sameD]
    | int b => simp [sameD]
    | str b => simp [sameD]
    | lst a => rw [sameD]; exact key a h
    | tup a => rw [sameD]; exact key a h
    | _ => exact h.elim
theorem plain_nil {n : Nat} : ∀ x ∈ ([] : List D), plainD n x := fun _ h => nomatch h
theorem plain_cons {n : Nat} {d : D} {ds : List D} (h : plainD n d) (t : ∀ x ∈ ds, plainD n x) : ∀ x ∈ d :: ds, plainD n x := fun x hx => by
  rcases List.mem_cons.mp hx with rfl | z
  · exact h
  · exact t x z
theorem plain_ed (e : Ed) (n : Nat) : plainD (n + 3) (edD e) := by
  cases e with
  | keep => exact ⟨lsz rfl, plain_cons trivial plain_nil⟩
  | pre c => exact ⟨lsz rfl, plain_cons trivial (plain_cons trivial plain_nil)⟩
  | app c => exact ⟨lsz rfl, plain_cons trivial (plain_cons trivial plain_nil)⟩
  | at_ k p =>
    have hp : plainD (n + 2) (plD p) := ⟨lsz rfl, plain_cons trivial (plain_cons trivial (plain_cons trivial plain_nil))⟩
    cases k with
    | bef c => exact ⟨lsz rfl, plain_cons trivial (plain_cons hp (plain_cons trivial plain_nil))⟩
    | aft c => exact ⟨lsz rfl, plain_cons trivial (plain_cons hp (plain_cons trivial plain_nil))⟩
    | rem => exact ⟨lsz rfl, plain_cons trivial (plain_cons hp plain_nil)⟩
    | flp => exact ⟨lsz rfl, plain_cons trivial (plain_cons hp plain_nil)⟩
theorem x_same' {d : D} {w : Bx} (h : plainD 8 d) : mSame 8 [d, d] w = .ok (.bl true) w := x_same (same_refl 8 d h)
end Y
namespace Y
open PySem PySem.Spec PyProof.Rows L2
/-! ### data of which in and == are known -/
def nice1 (d : D) : Prop := ∃ p, shp d = some p
def nice2 (d : D) : Prop := nice1 d ∧ ∀ es, d = .tup es → ∀ y ∈ es, nice1 y
def strEq (a : Str) : D → Bool
  | .str s => decide (s = a)
  | _ => false
theorem eqv_strL {a : Str} {d : D} {p : PyData} (h : toPy d = some p) : PyData.eqv (.str a) p = strEq a d := by
  cases d with
  | non => rw [toPy] at h; cases h; rfl
  | bl b => rw [toPy] at h; cases h; rfl
  | int b => rw [toPy] at h; cases h; rfl
  | str b => rw [toPy] at h; cases h; rw [PyData.eqv, Bool.eq_iff_iff, beq_iff_eq, strEq, decide_eq_true_iff]; exact eq_comm
  | lst ds => rw [toPy] at h; obtain ⟨ps, _, e⟩ := Option.map_eq_some_iff.mp h; subst e; rfl
  | tup ds => rw [toPy] at h; obtain ⟨ps, _, e⟩ := Option.map_eq_some_iff.mp h; subst e; rfl
  | _ => rw [toPy] at h; cases h
theorem eqv_strR {a : Str} {d : D} {p : PyData} (h : toPy d = some p) : PyData.eqv p (.str a) = strEq a d := by
  cases d with
  | non => rw [toPy] at h; cases h; rfl
  | bl b => rw [toPy] at h; cases h; rfl
  | int b => rw [toPy] at h; cases h; rfl
  | str b => rw [toPy] at h; cases h; rw [PyData.eqv, Bool.eq_iff_iff]; simp [strEq]
  | lst ds => rw [toPy] at h; obtain ⟨ps, _, e⟩ := Option.map_eq_some_iff.mp h; subst e; rfl
  | tup ds => rw [toPy] at h; obtain ⟨ps, _, e⟩ := Option.map_eq_some_iff.mp h; subst e; rfl
  | _ => rw [toPy] at h; cases h
theorem in_gen {d : D} {p : PyData} {ds : List D} {ps : List PyData} (h : shp d = some p) (hq : shp (.tup ds) = some (.tuple ps)) : mIn d (.tup ds) = some (.bl (ps.any fun z => PyData.eqv z p)) := by
  have e : inB d (.tup ds) = some (ps.any fun z => PyData.eqv z p) := by
    cases d <;> simp only [inB, h, hq, Option.bind_some]
  unfold mIn
  rw [e]; rfl
theorem shp_str2 (a b : Str) (h : SeqAt.shaped (.tuple [.str a, .str b]) = true) : shp (.tup [.str a, .str b]) = some (.tuple [.str a, .str b]) := by
  unfold shp
  have : toPy (.tup [.str a, .str b]) = some (.tuple [.str a, .str b]) := by simp [toPy, toPys]
  rw [this, Option.bind_some, if_pos h]
theorem in_str2 {d : D} {a b : Str} (h : nice1 d) (hs : SeqAt.shaped (.tuple [.str a, .str b]) = true) : mIn d (.tup [.str a, .str b]) = some (.bl (strEq a d || strEq b d)) := by
  obtain ⟨p, h⟩ := h
  rw [in_gen h (shp_str2 a b hs)]
  have := (shp_some h).1
  simp only [List.any_cons, List.any_nil, Bool.or_false, eqv_strL this]
theorem eq_str {d : D} {a : Str} (h : nice1 d) (hs : SeqAt.shaped (.str a) = true) : mEq d (.str a) = some (.bl (strEq a d)) := by
  obtain ⟨p, h⟩ := h
  have t := (shp_some h).1
  have ha : shp (.str a) = some (.str a) := by unfold shp; rw [toPy, Option.bind_some, if_pos hs]
  unfold mEq
  cases d with
  | str b => simp only [eqB, Option.map_some, strEq]
  | _ => simp only [eqB, h, ha, Option.bind_some, Option.map_some, eqv_strR t]
def isSym (d : D) : Bool := strEq "a" d || strEq "b" d
def isNum : D → Bool
  | .int i => decide (i = 1) || decide (i = 2)
  | _ => false
def isPl : D → Bool
  | .tup [a, b, c] => isSym a && (isNum b && (strEq "front" c || strEq "back" c))
  | _ => false
def isEdB (b1 b2 b3 b4 : Bool) (r : List D) : Bool :=
  if b1 then (match r with | [] => true | _ => false)
  else if b2 then (match r with | [s] => isSym s | _ => false)
  else if b3 then (match r with | [p, s] => isPl p && isSym s | _ => false)
  else if b4 then (match r with | [p] => isPl p | _ => false)
  else false
def isEdD : List D → Bool
  | [] => false
  | w :: r => isEdB (strEq "keep" w) (strEq "prepend" w || strEq "append" w) (strEq "before" w || strEq "after" w) (strEq "remove" w || strEq "flip" w) r
/-- number in (1, 2) -/
def in12 : D → Bool
  | .int i => decide (i = 1) || decide (i = 2)
  | .bl b => b
  | _ => false
theorem in_12 {d : D} (h : nice1 d) : mIn d (.tup [.int 1, .int 2]) = some (.bl (in12 d)) := by
  obtain ⟨p, h⟩ := h
  have hq : shp (.tup [.int 1, .int 2]) = some (.tuple [.int 1, .int 2]) := by
    unfold shp
    have : toPy (.tup [.int 1, .int 2]) = some (.tuple [.int 1, .int 2]) := by simp [toPy, toPys]
    rw [this, Option.bind_some, if_pos (by decide +kernel)]
  rw [in_gen h hq]
  have t := (shp_some h).1
  congr 2
  cases d with
  | non => rw [toPy] at t; cases t; rfl
  | bl b => rw [toPy] at t; cases t; cases b <;> rfl
  | int b =>
    rw [toPy] at t; cases t
    have c : ∀ k : Int, (k == b) = decide (b = k) := fun k => by rw [Bool.eq_iff_iff, beq_iff_eq, decide_eq_true_iff]; exact eq_comm
    simp only [List.any_cons, List.any_nil, Bool.or_false, PyData.eqv, in12, c]
  | str b => rw [toPy] at t; cases t; rfl
  | lst ds => rw [toPy] at t; obtain ⟨ps, _, e⟩ := Option.map_eq_some_iff.mp t; subst e; rfl
  | tup ds => rw [toPy] at t; obtain ⟨ps, _, e⟩ := Option.map_eq_some_iff.mp t; subst e; rfl
  | _ => rw [toPy] at t; cases t
theorem isi_of {T a : String} {d : D} (h : tyN d = some a) : mIsi T d = some (.bl (isSub a T)) := by unfold mIsi; rw [h]; rfl
theorem nice_ty {d : D} (h : nice1 d) : ∃ a, tyN d = some a := by
  obtain ⟨p, h⟩ := h
  have t := (shp_some h).1
  cases d with
  | box => rw [toPy] at t; cases t
  | obj _ _ => rw [toPy] at t; cases t
  | dct _ => rw [toPy] at t; cases t
  | cel _ => rw [toPy] at t; cases t
  | _ => exact ⟨_, rfl⟩
/-! ### data by its depth -/
def niceN : Nat → D → Prop
  | _, .non => True
  | _, .bl _ => True
  | _, .int _ => True
  | _, .str s => PyData.strOk s = true
  | n + 1, .lst ds => ∀ x ∈ ds, niceN n x
  | n + 1, .tup ds => ∀ x ∈ ds, niceN n x
  | _, _ => False
mutual
theorem nice_py : ∀ {d : D} {n : Nat}, niceN n d → ∃ p, toPy d = some p ∧ p.canLay0 = true ∧ p.depth ≤ n
  | .non, n, _ => ⟨.none, by rw [toPy], rfl, Nat.zero_le _⟩
  | .bl b, n, _ => ⟨.bool b, by rw [toPy], rfl, Nat.zero_le _⟩
  | .int b, n, _ => ⟨.int b, by rw [toPy], rfl, Nat.zero_le _⟩
  | .str s, n, h => ⟨.str s, by rw [toPy], (by unfold niceN at h; rw [PyData.canLay0]; exact h), Nat.zero_le _⟩
  | .lst ds, 0, h => by simp [niceN] at h
  | .tup ds, 0, h => by simp [niceN] at h
  | .lst ds, n + 1, h => by
    obtain ⟨ps, e1, e2, e3⟩ := nice_pys (ds := ds) (n := n) (by unfold niceN at h; exact h)
    exact ⟨.list ps, by rw [toPy, e1]; rfl, by rw [PyData.canLay0]; exact e2, by rw [PyData.depth]; omega⟩
  | .tup ds, n + 1, h => by
    obtain ⟨ps, e1, e2, e3⟩ := nice_pys (ds := ds) (n := n) (by unfold niceN at h; exact h)
    exact ⟨.tuple ps, by rw [toPy, e1]; rfl, by rw [PyData.canLay0]; exact e2, by rw [PyData.depth]; omega⟩
  | .box, n, h => by cases n <;> simp [niceN] at h
  | .obj _ _, n, h => by cases n <;> simp [niceN] at h
  | .dct _, n, h => by cases n <;> simp [niceN] at h
  | .cel _, n, h => by cases n <;> simp [niceN] at h
theorem nice_pys : ∀ {ds : List D} {n : Nat}, (∀ x ∈ ds, niceN n x) → ∃ ps, toPys ds = some ps ∧ PyData.canLayAll0 ps = true ∧ PyData.depthAll ps ≤ n
  | [], n, _ => ⟨[], by rw [toPys], by rw [PyData.canLayAll0], Nat.zero_le _⟩
  | d :: ds, n, h => by
    obtain ⟨p, a1, a2, a3⟩ := nice_py (h d (List.mem_cons_self ..))
    obtain ⟨ps, e1, e2, e3⟩ := nice_pys fun x hx => h x (List.mem_cons_of_mem _ hx)
    refine ⟨p :: ps, by rw [toPys, a1, e1]; rfl, by rw [PyData.canLayAll0, a2, e2]; rfl, ?_⟩
    rw [PyData.depthAll]
    exact Nat.max_le.mpr ⟨a3, e3⟩
end
theorem nice_shp {d : D} {n : Nat} (h : niceN n d) (hn : n ≤ 64) : ∃ p, toPy d = some p ∧ shp d = some p := by
  obtain ⟨p, a1, a2, a3⟩ := nice_py h
  refine ⟨p, a1, ?_⟩
  unfold shp
  rw [a1, Option.bind_some, if_pos]
  unfold SeqAt.shaped
  rw [a2, Bool.true_and]
  exact decide_eq_true (Nat.le_trans a3 hn)
theorem nice1_of {d : D} {n : Nat} (h : niceN n d) (hn : n ≤ 64 := by decide) : nice1 d := let ⟨p, _, e⟩ := nice_shp h hn; ⟨p, e⟩
theorem niceN_tup {n : Nat} {ds : List D} (h : niceN n (.tup ds)) : ∀ x ∈ ds, niceN (n - 1) x := by
  cases n with
  | zero => simp [niceN] at h
  | succ n => unfold niceN at h; exact h
theorem nice2_ofN {d : D} {n : Nat} (h : niceN n d) (hn : n ≤ 64 := by decide) : nice2 d :=
  ⟨nice1_of h hn, fun es e y hy => by subst e; exact nice1_of (niceN_tup h y hy) (by omega)⟩
theorem addL {a b : List D} (h : a.length + b.length ≤ 16777216) : mAdd (.lst a) (.lst b) = some (.lst (a ++ b)) := by
  unfold mAdd
  simp only
  rw [if_pos (show a.length + b.length ≤ sizeN from h)]
end Y
namespace Y
open PySem PySem.Spec PyProof.Rows L2
/-! ### traces, plainly -/
structure Pc where
  b : List Nat
  s : List Nat
  a : List Nat
def Pc.all (p : Pc) : List Nat := p.b ++ p.s ++ p.a
def Pc.nil : Pc := ⟨[], [], []⟩
def wr (ps : List Pc) : List Nat := (ps.map Pc.all).flatten
structure Tr where
  src : List Nat
  head : List Nat
  ps : List Pc
  tail : List Nat
def Tr.res (t : Tr) : List Nat := t.head ++ wr t.ps ++ t.tail
structure Tr.Ok (t : Tr) : Prop where
  len : t.ps.length = t.src.length
  one : ∀ p ∈ t.ps, p.s.length ≤ 1
/-! ### one trace behind another -/
theorem getD_one {ps : List Pc} (h : ∀ p ∈ ps, p.s.length ≤ 1) (i : Nat) : (ps.getD i Pc.nil).s.length ≤ 1 := by
  rw [List.getD_eq_getElem?_getD]
  cases q : ps[i]? with
  | none => simp [Pc.nil]
  | some p => exact h p (List.mem_of_getElem? q)
/-! ### scripts -/
/-! ### traces and scripts as data -/
def scD (es : List Ed) : D := .obj "Script" [("kept", .lst (es.map edD))]
end Y
namespace Y
open PySem PySem.Spec PyProof.Rows L2
section
variable {S S1 : SL} {w w1 w2 w3 : Bx} {d e z : D} {ds es : List D} {fa fb fo : EM} {fs : AM} {c m : Str} {mm : List D → Bx → R D}
theorem x_make {n : Nat → Bool} {mi : List D → Bx → R (List (Str × D))} {fl : List (Str × D)} (ha : fs S w = .ok ds w1) (hn : n ds.length = true) (hm : mi ds w1 = .ok fl w2) : eMake c n mi fs S w = .ok (.obj c fl) w2 := by
  unfold eMake; rw [ha, R.bind_ok, if_pos hn, hm]; rfl
theorem x_star (h : fa S w = .ok d w1) (hs : seqD d = some ds) : aStar fa S w = .ok ds w1 := by unfold aStar; rw [h, R.bind_ok, hs]; rfl
theorem x_meth {n : Nat} {r : R D} (ha : fo S w = .ok d w1) (ho : isObj c m d = true) (hb : fs S w1 = .ok ds w2) (hn : ds.length + 1 = n) (hm : mm (d :: ds) w2 = r) : eMeth c m n mm fo fs S w = r := by
  unfold eMeth; rw [ha, R.bind_ok, if_pos ho, hb, R.bind_ok, if_pos hn, hm]
theorem x_own {r : R D} (ha : fa S w = .ok d w1) (hb : fb S w1 = .ok e w2) (ho : (isCls c d && isCls c e) = true) (hm : mm [d, e] w2 = r) : eOwn c mm fa fb S w = r := by
  unfold eOwn; rw [ha, R.bind_ok, hb, R.bind_ok, if_pos ho, hm]
theorem x_enumT (h : fa S w = .ok (.tup ds) w1) : iEnumT fa S w = .ok (numbered ds) w1 := by unfold iEnumT; rw [h]; rfl
theorem x_fldI {f : Str} {fl : List (Str × D)} {i : Nat} (h : fa S w = .ok d w1) (hi : insAt S i c = some fl) (hl : fl.length < 1000 ∧ soleI S i = true) : sFldI i c f fa S w = .nx (S.set i (some (.ins c (putD f d fl)))) w1 := by
  unfold sFldI; rw [h, R.to_ok, hi]; simp only; rw [if_pos hl]
end
/-- a loop whose slots are told by the items that are left -/
theorem x_forI {β : Type} {gm : GM} {body : SM} {f : β → D} (I : List β → SL → Bx → Prop) (hs : ∀ b bs S w, I (b :: bs) S w → ∃ S1 S2 w2, gm (f b) S = some S1 ∧ body S1 w = .nx S2 w2 ∧ I bs S2 w2) : ∀ (l : List β) (S : SL) (w : Bx), I l S w → ∃ S2 w2, forLoop gm body (l.map f) S w = .nx S2 w2 ∧ I [] S2 w2
  | [], S, w, h => ⟨S, w, rfl, h⟩
  | b :: bs, S, w, h => by
    obtain ⟨S1, S2, w2, h1, h2, h3⟩ := hs b bs S w h
    obtain ⟨S3, w3, h4, h5⟩ := x_forI I hs bs S2 w2 h3
    refine ⟨S3, w3, ?_, h5⟩
    show (match gm (f b) S with | none => RS.bad | some S1 => _) = _
    rw [h1]
    simp only [h2]
    exact h4
theorem sc_kept (a : D) : fldD "Script" "kept" (.obj "Script" [("kept", a)]) = some a := by
  unfold fldD
  simp only [if_true]
  simp [List.lookup]
theorem cls_self (c : Str) (fs : List (Str × D)) : isCls c (.obj c fs) = true := decide_eq_true rfl
theorem insAt_cons {c : Str} {fl : List (Str × D)} {S : SL} : insAt (some (.ins c fl) :: S) 0 c = some fl := by
  unfold insAt
  simp
theorem x_seqZ {m k : SM} {S S1 S1' : SL} {w w1 : Bx} {r : RS} (h : m S w = .nx S1 w1) (e : S1 = S1') (h2 : k S1' w1 = r) : sSeq m k S w = r := x_seq h (e ▸ h2)
/-! ### where nothing is drawn -/
theorem p_cons {f : EM} {fs : AM} {S : SL} {w : Bx} {d : D} {ds : List D} (ha : f S w = .ok d w) (hr : fs S w = .ok ds w) : aCons f fs S w = .ok (d :: ds) w := x_cons ha hr
theorem p_bin {mo : D → D → Option D} {fa fb : EM} {S : SL} {w : Bx} {d e z : D} (ha : fa S w = .ok d w) (hb : fb S w = .ok e w) (hm : mo d e = some z) : eBin mo fa fb S w = .ok z w := x_bin ha hb hm
theorem p_seq {m k : SM} {S S1 : SL} {w : Bx} {r : RS} (h : m S w = .nx S1 w) (h2 : k S1 w = r) : sSeq m k S w = r := x_seq h h2
theorem p_any {f : EM} {S : SL} {w : Bx} {d : D} {ds : List D} (h : f S w = .ok d w) (hi : itemsOf d = some ds) : iAny f S w = .ok ds w := x_any h hi
theorem endI_ins {c : Str} {fl : List (Str × D)} {S : SL} {w : Bx} : endI c (.nx (some (.ins c fl) :: S) w) = .ok fl w := by
  unfold endI
  simp
theorem sym_ok {c : Nat} (h : AB c) : niceN 2 (.str (tx [c])) := by
  rcases h with rfl | rfl
  · rw [← lit_a]; show PyData.strOk _ = true; decide +kernel
  · rw [← lit_b]; show PyData.strOk _ = true; decide +kernel
theorem pl_nice {p : Pl} (h : PlOk p) : ∀ x ∈ [D.str (tx [p.c]), .int (p.n : Int), .str (endS p.fr)], niceN 1 x := by
  intro x hx
  simp only [List.mem_cons, List.not_mem_nil, or_false] at hx
  rcases hx with rfl | rfl | rfl
  · have := sym_ok h.1; unfold niceN at this ⊢; exact this
  · trivial
  · cases p.fr <;> (show PyData.strOk _ = true; decide +kernel)
theorem pl_isPl {p : Pl} (h : PlOk p) (h2 : p.n ≤ 2) : isPl (plD p) = true := by
  obtain ⟨c, n, fr⟩ := p
  obtain ⟨h1, h3, _⟩ := h
  have hn : n = 1 ∨ n = 2 := by simp only at h2 h3; omega
  simp only at h1
  have : isSym (.str (tx [c])) = true := by
    rcases h1 with rfl | rfl
    · rw [← lit_a]; decide +kernel
    · rw [← lit_b]; decide +kernel
  show (isSym (.str (tx [c])) && (isNum (.int (n : Int)) && (strEq "front" (.str (endS fr)) || strEq "back" (.str (endS fr))))) = true
  rw [this]
  rcases hn with rfl | rfl <;> cases fr <;> decide +kernel
theorem ed_list {e : Ed} (he : EdOk e) : ∃ a r, edD e = .tup (a :: r) ∧ r.length ≤ 2 ∧ ∀ x ∈ a :: r, niceN 2 x := by
  cases e with
  | keep => exact ⟨_, _, rfl, by simp, fun x hx => by rw [List.mem_singleton.mp hx]; show PyData.strOk _ = true; decide +kernel⟩
  | pre c => exact ⟨_, _, rfl, by simp, fun x hx => by
      simp only [List.mem_cons, List.not_mem_nil, or_false] at hx
      rcases hx with rfl | rfl
      · show PyData.strOk _ = true; decide +kernel
      · exact sym_ok he⟩
  | app c => exact ⟨_, _, rfl, by simp, fun x hx => by
      simp only [List.mem_cons, List.not_mem_nil, or_false] at hx
      rcases hx with rfl | rfl
      · show PyData.strOk _ = true; decide +kernel
      · exact sym_ok he⟩
  | at_ k p =>
    have hp : niceN 2 (plD p) := pl_nice he.2
    cases k with
    | bef c => exact ⟨_, _, rfl, by simp, fun x hx => by
        simp only [List.mem_cons, List.not_mem_nil, or_false] at hx
        rcases hx with rfl | rfl | rfl
        · show PyData.strOk _ = true; decide +kernel
        · exact hp
        · exact sym_ok he.1⟩
    | aft c => exact ⟨_, _, rfl, by simp, fun x hx => by
        simp only [List.mem_cons, List.not_mem_nil, or_false] at hx
        rcases hx with rfl | rfl | rfl
        · show PyData.strOk _ = true; decide +kernel
        · exact hp
        · exact sym_ok he.1⟩
    | rem => exact ⟨_, _, rfl, by simp, fun x hx => by
        simp only [List.mem_cons, List.not_mem_nil, or_false] at hx
        rcases hx with rfl | rfl
        · show PyData.strOk _ = true; decide +kernel
        · exact hp⟩
    | flp => exact ⟨_, _, rfl, by simp, fun x hx => by
        simp only [List.mem_cons, List.not_mem_nil, or_false] at hx
        rcases hx with rfl | rfl
        · show PyData.strOk _ = true; decide +kernel
        · exact hp⟩

def Ed2 : Ed → Prop
  | .at_ _ p => p.n ≤ 2
  | _ => True
theorem isSym_ab {c : Nat} (h : AB c) : isSym (.str (tx [c])) = true := by
  rcases h with rfl | rfl
  · rw [← lit_a]; decide +kernel
  · rw [← lit_b]; decide +kernel
theorem edB_word (w : Str) (b1 b2 b3 b4 : Bool) (r : List D) (h1 : strEq "keep" (.str w) = b1) (h2 : (strEq "prepend" (.str w) || strEq "append" (.str w)) = b2) (h3 : (strEq "before" (.str w) || strEq "after" (.str w)) = b3) (h4 : (strEq "remove" (.str w) || strEq "flip" (.str w)) = b4) : isEdD (.str w :: r) = isEdB b1 b2 b3 b4 r := by
  subst h1 h2 h3 h4; rfl
theorem ed_is {e : Ed} (he : EdOk e) (h2 : Ed2 e) : ∃ ds, edD e = .tup ds ∧ (∀ x ∈ ds, niceN 2 x) ∧ isEdD ds = true := by
  obtain ⟨a, r, e1, _, e3⟩ := ed_list he
  refine ⟨a :: r, e1, e3, ?_⟩
  cases e with
  | keep => cases e1; rw [edB_word "keep" true false false false _ (by decide +kernel) (by decide +kernel) (by decide +kernel) (by decide +kernel)]; rfl
  | pre c => cases e1; rw [edB_word "prepend" false true false false _ (by decide +kernel) (by decide +kernel) (by decide +kernel) (by decide +kernel)]; exact isSym_ab he
  | app c => cases e1; rw [edB_word "append" false true false false _ (by decide +kernel) (by decide +kernel) (by decide +kernel) (by decide +kernel)]; exact isSym_ab he
  | at_ k p =>
    have hp := pl_isPl he.2 h2
    cases k with
    | bef c => cases e1; rw [edB_word "before" false false true false _ (by decide +kernel) (by decide +kernel) (by decide +kernel) (by decide +kernel)]; show (isPl (plD p) && isSym (.str (tx [c]))) = true; rw [hp, isSym_ab he.1]; rfl
    | aft c => cases e1; rw [edB_word "after" false false true false _ (by decide +kernel) (by decide +kernel) (by decide +kernel) (by decide +kernel)]; show (isPl (plD p) && isSym (.str (tx [c]))) = true; rw [hp, isSym_ab he.1]; rfl
    | rem => cases e1; rw [edB_word "remove" false false false true _ (by decide +kernel) (by decide +kernel) (by decide +kernel) (by decide +kernel)]; exact hp
    | flp => cases e1; rw [edB_word "flip" false false false true _ (by decide +kernel) (by decide +kernel) (by decide +kernel) (by decide +kernel)]; exact hp
theorem x_forW {gm : GM} {body : SM} {w : Bx} (I : SL → Prop) : ∀ (ds : List D) (S : SL), I S → (∀ x ∈ ds, ∀ S, I S → ∃ S1 S2, gm x S = some S1 ∧ body S1 w = .nx S2 w ∧ I S2) → ∃ S2, forLoop gm body ds S w = .nx S2 w ∧ I S2
  | [], S, h, _ => ⟨S, rfl, h⟩
  | x :: ds, S, h, hb => by
    obtain ⟨S1, S2, h1, h2, h3⟩ := hb x (List.mem_cons_self ..) S h
    obtain ⟨S3, h4, h5⟩ := x_forW I ds S2 h3 fun y hy => hb y (List.mem_cons_of_mem _ hy)
    refine ⟨S3, ?_, h5⟩
    show (match gm x S with | none => RS.bad | some S1 => _) = _
    rw [h1]
    simp only [h2]; exact h4
theorem num_mem {ds : List D} {x : D} (h : x ∈ numbered ds) : ∃ (i : Nat) (d : D), x = .tup [.int (i : Int), d] ∧ d ∈ ds := by
  obtain ⟨i, hi⟩ := List.getElem?_of_mem h
  obtain ⟨d, hd, rfl⟩ := num_get hi
  exact ⟨i, d, rfl, List.mem_of_getElem? hd⟩
theorem list_ex {P : Ed → Prop} : ∀ (ys : List D), (∀ y ∈ ys, ∃ e, y = edD e ∧ P e) → ∃ es : List Ed, ys = es.map edD ∧ ∀ e ∈ es, P e
  | [], _ => ⟨[], rfl, fun _ h => nomatch h⟩
  | y :: ys, h => by
    obtain ⟨e, rfl, he⟩ := h y (List.mem_cons_self ..)
    obtain ⟨es, rfl, hes⟩ := list_ex ys fun z hz => h z (List.mem_cons_of_mem _ hz)
    exact ⟨e :: es, rfl, fun x hx => by
      rcases List.mem_cons.mp hx with rfl | hx
      · exact he
      · exact hes x hx⟩
def Ed12 (e : Ed) : Prop := EdOk e ∧ Ed2 e
end Y
namespace Y
open PySem PySem.Spec PyProof.Rows L2
/-! ### symbols marked with their owners -/
structure Mk' where
  o : Int
  w : Bool
  s : List Nat
/-! the living ones -/
/-! ### what joining does to a trace, where the place is known -/
/-! ### the step -/
end Y
namespace Y
open PySem PySem.Spec PyProof.Rows L2
def m0 : Mk' := ⟨0, false, []⟩
/-! ### marks as data -/
end Y
namespace Y
open PySem PySem.Spec PyProof.Rows L2
/-! ### products of traces: units and threes -/
/-- where the n-th piece of the middle trace starts in the last one -/
def off (h : Nat) (bp : List Pc) (n : Nat) : Nat := h + (wr (bp.take n)).length
end Y
namespace Y
open PySem PySem.Spec PyProof.Rows L2
/-! ### a nice thing is equal to itself -/
theorem nice_tx {l : List Nat} (h : ∀ c ∈ l, AB c) (n : Nat) : niceN n (.str (tx l)) := by
  have : PyData.strOk (tx l) = true := by
    unfold PyData.strOk
    rw [← Array.all_toList, List.all_eq_true]
    intro c hc
    have hc' : c ∈ l := by simpa [tx] using hc
    rcases h c hc' with rfl | rfl <;> decide
  cases n <;> exact this
theorem wr_mem2 {ps : List Pc} {p : Pc} (h : p ∈ ps) {c : Nat} (hc : c ∈ p.all) : c ∈ wr ps := by
  unfold wr
  exact List.mem_flatten.mpr ⟨p.all, List.mem_map.mpr ⟨p, h, rfl⟩, hc⟩
theorem nice_list {n : Nat} {ds : List D} (h : ∀ x ∈ ds, niceN n x) : niceN (n + 1) (.lst ds) := by unfold niceN; exact h
theorem nice_tupl {n : Nat} {ds : List D} (h : ∀ x ∈ ds, niceN n x) : niceN (n + 1) (.tup ds) := by unfold niceN; exact h
theorem nice_cons {n : Nat} {d : D} {ds : List D} (h : niceN n d) (t : ∀ x ∈ ds, niceN n x) : ∀ x ∈ d :: ds, niceN n x := fun x hx => by
  rcases List.mem_cons.mp hx with rfl | hx
  · exact h
  · exact t x hx
theorem nice_nil {n : Nat} : ∀ x ∈ ([] : List D), niceN n x := fun _ h => nomatch h
end Y
namespace Y
open PySem PySem.Spec PyProof.Rows L2
/-! ### traces in a mirror -/
end Y
namespace Y
open PySem PySem.Spec PyProof.Rows L2
/-! ### traces merged -/
def mgP (c : List Nat) (p q : Pc) : Option Pc :=
  if p.s = q.s ∨ q.s = c then some ⟨p.b ++ q.b, p.s, p.a ++ q.a⟩ else if p.s = c then some ⟨p.b ++ q.b, q.s, p.a ++ q.a⟩ else none
def mgD (a b : List Ed) : D := .obj "Merge" [("first", scD a), ("second", scD b)]
end Y
namespace Y
open PySem PySem.Spec PyProof.Rows L2
/-! ### places are counted: what lies in which part of a row -/
/-! ### an edit at a place, over marks -/
def Le1 (m : List Mk') : Prop := ∀ x ∈ m, x.s.length ≤ 1
theorem Le1.l {a b : List Mk'} (h : Le1 (a ++ b)) : Le1 a := fun x hx => h x (List.mem_append_left _ hx)
theorem Le1.r {a b : List Mk'} (h : Le1 (a ++ b)) : Le1 b := fun x hx => h x (List.mem_append_right _ hx)
theorem Le1.app {a b : List Mk'} (h : Le1 a) (k : Le1 b) : Le1 (a ++ b) := fun x hx => (List.mem_append.mp hx).elim (h x) (k x)
/-! what an edit does to the numbers -/
/-! without the owner -/
/-! ### two rows, seen from one symbol -/
/-! the marks of a row -/
/-- two rows whose numbers agree up to R -/
def Agree (R : Nat) (u v : List Nat) : Prop := ∀ d, min (u.count d) R = min (v.count d) R
theorem Agree.mono {R R' : Nat} {u v : List Nat} (h : Agree R u v) (k : R' ≤ R) : Agree R' u v := fun d => by have := h d; omega
end Y
namespace Y
open PySem PySem.Spec PyProof.Rows L2
/-- a row with a tally -/
def smp (p q : Nat) : List Nat := List.replicate p 97 ++ List.replicate q 98
end Y
namespace Y
open PySem PySem.Spec PyProof.Rows L2
/-! ### a text in a list of texts -/
/-! ### what may stand in a piece -/
/-! ### merging -/
structure Mg (t u v : Tr) : Prop where
  src : v.src = t.src
  head : v.head = t.head ++ u.head
  tail : v.tail = t.tail ++ u.tail
  len : v.ps.length = t.src.length
  at_ : ∀ i, i < t.src.length → mgP [t.src.getD i 0] (t.ps.getD i Pc.nil) (u.ps.getD i Pc.nil) = some (v.ps.getD i Pc.nil)
theorem mgP_parts {c : List Nat} {p q r : Pc} (h : mgP c p q = some r) : r.b = p.b ++ q.b ∧ r.a = p.a ++ q.a ∧ (r.s = p.s ∨ r.s = q.s) := by
  unfold mgP at h
  split at h
  · cases h; exact ⟨rfl, rfl, .inl rfl⟩
  · split at h
    · cases h; exact ⟨rfl, rfl, .inr rfl⟩
    · cases h
theorem Mg.ok {t u v : Tr} (m : Mg t u v) (ht : t.Ok) (hu : u.Ok) : v.Ok := ⟨by rw [m.len, m.src], fun p hp => by
  obtain ⟨i, hi, rfl⟩ := List.getElem_of_mem hp
  have hi' := hi
  rw [m.len] at hi
  have q := (mgP_parts (m.at_ i hi)).2.2
  rw [show v.ps.getD i Pc.nil = v.ps[i] by rw [List.getD_eq_getElem?_getD, List.getElem?_eq_getElem hi']; rfl] at q
  rcases q with q | q
  · rw [q]; exact getD_one ht.one i
  · rw [q]; exact getD_one hu.one i⟩
theorem wr_at {ps : List Pc} {i : Nat} : ∀ c ∈ (ps.getD i Pc.nil).all, c ∈ wr ps := fun c hc => by
  rw [List.getD_eq_getElem?_getD] at hc
  cases q : ps[i]? with
  | none => rw [q] at hc; simp [Pc.nil, Pc.all] at hc
  | some p => rw [q] at hc; exact wr_mem2 (List.mem_of_getElem? q) hc
theorem mem_wr {ps : List Pc} {c : Nat} (h : c ∈ wr ps) : ∃ i, i < ps.length ∧ c ∈ (ps.getD i Pc.nil).all := by
  unfold wr at h
  obtain ⟨l, h1, h2⟩ := List.mem_flatten.mp h
  obtain ⟨p, h3, rfl⟩ := List.mem_map.mp h1
  obtain ⟨i, hi, rfl⟩ := List.getElem_of_mem h3
  exact ⟨i, hi, by rw [List.getD_eq_getElem?_getD, List.getElem?_eq_getElem hi]; exact h2⟩
theorem Mg.mem {t u v : Tr} (m : Mg t u v) {c : Nat} (h : c ∈ v.res) : c ∈ t.res ∨ c ∈ u.res := by
  have inR : ∀ (t : Tr) (i : Nat), c ∈ (t.ps.getD i Pc.nil).all → c ∈ t.res := fun t i q => by simp [Tr.res, wr_at c q]
  simp only [Tr.res, List.mem_append] at h
  rcases h with (h | h) | h
  · rw [m.head] at h
    rcases List.mem_append.mp h with h | h
    · exact .inl (by simp [Tr.res, h])
    · exact .inr (by simp [Tr.res, h])
  · obtain ⟨i, hi, h⟩ := mem_wr h
    rw [m.len] at hi
    obtain ⟨e1, e2, e3⟩ := mgP_parts (m.at_ i hi)
    simp only [Pc.all, List.mem_append] at h
    rw [e1, e2] at h
    simp only [List.mem_append] at h
    rcases h with ((h | h) | h) | (h | h)
    · exact .inl (inR t i (by simp only [Pc.all, List.mem_append, h, true_or, or_true]))
    · exact .inr (inR u i (by simp only [Pc.all, List.mem_append, h, true_or, or_true]))
    · rcases e3 with e3 | e3
      · rw [e3] at h; exact .inl (inR t i (by simp only [Pc.all, List.mem_append, h, true_or, or_true]))
      · rw [e3] at h; exact .inr (inR u i (by simp only [Pc.all, List.mem_append, h, true_or, or_true]))
    · exact .inl (inR t i (by simp only [Pc.all, List.mem_append, h, true_or, or_true]))
    · exact .inr (inR u i (by simp only [Pc.all, List.mem_append, h, true_or, or_true]))
  · rw [m.tail] at h
    rcases List.mem_append.mp h with h | h
    · exact .inl (by simp [Tr.res, h])
    · exact .inr (by simp [Tr.res, h])
end Y
namespace Y
open PySem PySem.Spec PyProof.Rows L2
end Y
namespace Y
open PySem PySem.Spec PyProof.Rows L2
/-! ### which clause takes an exception -/
theorem exmFive {M : Model} {K : PySem.W.Frag} {c1 c2 c3 c4 c5 cls : Value} {tp e : Addr} {b : Bool} {h : Heap} (KX : K.In h) (ty : PySem.W.Looks M h (typeOf (.ref e)) cls) (tup : h.get? tp = some { cls := .type "tuple", data := .seq [c1, c2, c3, c4, c5].toArray })
    (hx : PySem.W.exmAny K cls [c1, c2, c3, c4, c5] = some b) : PySem.W.Looks M h (excMatches (.ref e) (.ref tp)) b := by
  intro A Q E s kk q
  obtain ⟨hh, gg, dd, tt, oo⟩ := s
  have kp : ∀ x y, h.get? x = some y → hh.get? x = some y := kk
  have isT : PySem.W.Looks M h (isInstance (.ref tp) (.type "tuple")) true := ((PySem.W.Looks.ld tup).andThen .now).andThen (PySem.W.Looks.of_pure PySem.isSubtype_tuple_tuple)
  obtain ⟨p1, r1, m1, n1, f1⟩ := PySem.W.exmAny_cons hx
  obtain ⟨p2, r2, m2, n2, f2⟩ := PySem.W.exmAny_cons n1
  obtain ⟨p3, r3, m3, n3, f3⟩ := PySem.W.exmAny_cons n2
  obtain ⟨p4, r4, m4, n4, f4⟩ := PySem.W.exmAny_cons n3
  obtain ⟨p5, r5, m5, n5, f5⟩ := PySem.W.exmAny_cons n4
  have n5 : some false = some r5 := n5
  cases n5
  obtain ⟨i1, j1⟩ := PySem.W.exm_cls (M := M) KX m1
  obtain ⟨i2, j2⟩ := PySem.W.exm_cls (M := M) KX m2
  obtain ⟨i3, j3⟩ := PySem.W.exm_cls (M := M) KX m3
  obtain ⟨i4, j4⟩ := PySem.W.exm_cls (M := M) KX m4
  obtain ⟨i5, j5⟩ := PySem.W.exm_cls (M := M) KX m5
  replace i1 := i1.keeps kp; replace j1 := j1.keeps kp
  replace i2 := i2.keeps kp; replace j2 := j2.keeps kp
  replace i3 := i3.keeps kp; replace j3 := j3.keeps kp
  replace i4 := i4.keeps kp; replace j4 := j4.keeps kp
  replace i5 := i5.keeps kp; replace j5 := j5.keeps kp
  replace ty := ty.keeps kp; replace isT := isT.keeps kp
  replace tup := kp _ _ tup
  subst f1 f2 f3 f4 f5
  unfold excMatches
  refine wpAny_bind (isT.at ?_); dsimp only; rw [if_pos rfl]
  first
    | refine wpAny_bind (wpAny_seqItems tup rfl ?_); dsimp only [Option.getD_some, Option.getD]
    | refine wpAny_bind (wpAny_bind (wpAny_seqItems tup rfl (wpAny_pure ?_))); dsimp only [Option.getD_some, Option.getD]
  cases p1 <;> cases p2 <;> cases p3 <;> cases p4 <;> cases p5 <;> ((repeat (first | simp only [List.forIn_cons, List.forIn_nil, Bool.not_true, Bool.false_eq_true, if_false, if_true] | lk)); exact q)
/-- the test of a clause: it answers for the classes cs -/
def TestE (X : Cx) (t : Expr) (cs : List Value) : Prop := ∀ {a : Addr} {oe : Obj} {pn pins : List (Addr × Obj)} {σ : L2.St} {H : Hp} {s : Shared} {Q : Value → Shared → Prop} {E : Value → Shared → Prop}, Inv (X.suite a ((a, oe) :: pn)) pins σ H s →
  (∀ c' h', (∀ x y, s.heap.get? x = some y → h'.get? x = some y) → (∀ cls b e, PySem.W.Looks (model X.prog X.w) h' (typeOf (.ref e)) cls → PySem.W.exmAny X.K cls cs = some b → PySem.W.Looks (model X.prog X.w) h' (excMatches (.ref e) c') b) → Q c' { s with heap := h' }) →
  wpAny (model X.prog X.w) (X.A.mark (some (.ref a))) (eval t X.env) Q E s
theorem test_one {X : Cx} {x : Str} {c : Value} {np : Pos} (hg : Gl X x) (hm : X.mg x = some c) (hd : (x == ("__debug__" : Str)) = false := by decide) : TestE X (.Name x np) [c] := by
  intro a oe pn pins σ H s Q E I h
  refine ld_glob (X := X.suite a ((a, oe) :: pn)) I hg hm (h c s.heap (fun _ _ q => q) fun cls b e ty hx => ?_) hd
  obtain ⟨p1, r1, m1, n1, f1⟩ := PySem.W.exmAny_cons hx
  have n1 : some false = some r1 := n1
  cases n1
  rw [f1, Bool.or_false]
  exact PySem.W.exm_one I.kIn ty m1
/-- the names of a tuple -/
inductive NmsOk (X : Cx) : List Expr → List Value → Prop
  | nil : NmsOk X [] []
  | cons {x : Str} {c : Value} {np : Pos} {es : List Expr} {cs : List Value} (hg : Gl X x) (hm : X.mg x = some c) (hd : (x == ("__debug__" : Str)) = false) (r : NmsOk X es cs) : NmsOk X (.Name x np :: es) (c :: cs)
theorem nms_run {X : Cx} {a : Addr} {oe : Obj} {pn pins : List (Addr × Obj)} {σ : L2.St} {H : Hp} {s : Shared} {E : Value → Shared → Prop} {pos : Pos} (I : Inv (X.suite a ((a, oe) :: pn)) pins σ H s) : ∀ {es : List Expr} {cs : List Value}, NmsOk X es cs → ∀ {Q : List Value → Shared → Prop}, Q cs s → wpAny (model X.prog X.w) (X.A.mark (some (.ref a))) (spliced (backTo pos (starEach es X.env))) Q E s := by
  intro es cs hn
  induction hn with
  | nil => intro Q q; exact Calls.spliced_nil q
  | @cons x c np es cs hg hm hd r ih =>
    intro Q q
    have e : backTo pos (starEach (.Name x np :: es) X.env) = (false, eval (.Name x np) X.env) :: backTo pos (starEach es X.env) := by rfl
    rw [e]
    exact Calls.spliced_cons (ld_glob (X := X.suite a ((a, oe) :: pn)) I hg hm (wpAny_mono (ih (Q := fun us s1 => us = cs ∧ s1 = s) ⟨rfl, rfl⟩) (fun us s1 h => by obtain ⟨rfl, rfl⟩ := h; exact q) fun _ _ z => z) hd)
theorem test_tup {X : Cx} {es : List Expr} {cs : List Value} {k : Nat} {tpos : Pos} (hn : NmsOk X es cs) (h2 : 2 ≤ cs.length) (h5 : cs.length ≤ 5) : TestE X (.Tuple es k tpos) cs := by
  intro a oe pn pins σ H s Q E I h
  refine wpAny_Tuple_spliced (nms_run I hn ⟨Nat.le_trans h5 (by rw [sizeLine_eq]; decide), h _ _ (fun x y q => Heap.get?_push_of_some _ q) fun cls b e ty hx => ?_⟩)
  have KX : X.K.In (s.heap.push { cls := .type "tuple", data := .seq cs.toArray }) := I.kIn.keeps fun x y q => Heap.get?_push_of_some _ q
  have at_ : (s.heap.push ({ cls := .type "tuple", data := .seq cs.toArray } : Obj)).get? s.heap.objs.size = some ({ cls := .type "tuple", data := .seq cs.toArray } : Obj) := Heap.get?_push_size _ rfl
  match cs, h2, h5, hx, KX, at_, ty with
  | [_, _], _, _, hx, KX, at_, ty => exact PySem.W.exm_tup2 KX ty at_ hx
  | [_, _, _], _, _, hx, KX, at_, ty => exact PySem.W.exm_tup3 KX ty at_ hx
  | [_, _, _, _], _, _, hx, KX, at_, ty => exact PySem.W.exm_tup4 KX ty at_ hx
  | [_, _, _, _, _], _, _, hx, KX, at_, ty => exact exmFive KX ty at_ hx
/-- behind a suite the name is unbound -/
def endsAs (i : Nat) (D : Ends) : Ends := { nx := fun σ' H' => D.nx (σ'.set i none) H', rt := D.rt, bk := fun σ' H' => D.bk (σ'.set i none) H', ct := fun σ' H' => D.ct (σ'.set i none) H' }
/-- what the clauses wish of an exception of the body -/
def wClauses (K : PySem.W.Frag) (i : Nat) (Wout : WX) (D : Ends) : List (List Value × (Addr → Value → Option Addr → TS)) → WX
  | [] => Wout
  | (cs, ts) :: r => fun cls d σ H => ∃ b, PySem.W.exmAny K cls cs = some b ∧ (b = true → ∀ a, H a = none → ts a cls d (endsAs i D) (σ.set i (some (.ref a))) H) ∧ (b = false → wClauses K i Wout D r cls d σ H)
inductive ClsOk (X : Cx) (n : Str) : List ExceptHandler → List (List Value × (Addr → Value → Option Addr → TS)) → Prop
  | nil : ClsOk X n [] []
  | cons {t : Expr} {cs : List Value} {ts : Addr → Value → Option Addr → TS} {b₀ : Stmt} {suite : List Stmt} {cpos : Pos} {hds : List ExceptHandler} {l : List (List Value × (Addr → Value → Option Addr → TS))} (ht : TestE X t cs)
      (hsu : ∀ (a : Addr) (oe : Obj) (cls : Value) (d : Option Addr) (pn : List (Addr × Obj)), Zc cls d oe → (∃ vs, oe.data = .fields vs) → PSs (X.suite a ((a, oe) :: pn)) (b₀ :: suite) (ts a cls d)) (r : ClsOk X n hds l) :
      ClsOk X n (.ExceptHandler (some t) (some n) (b₀ :: suite) cpos :: hds) ((cs, ts) :: l)
theorem flying_grow {B h h' : Heap} {l : List Env} {e : Addr} {Z : Obj → Prop} (x : HandSPX.FlyingZ B l e Z h) (k : ∀ b o, h.get? b = some o → h'.get? b = some o) : HandSPX.FlyingZ B l e Z h' := by
  obtain ⟨x1, x2, x3, oe, vs, T, oT, ts, q1, q2, q3, q4, q5, q6, q7, q8⟩ := x
  exact ⟨fun b o q => k b o (x1 b o q), x2, x3.of_keeps fun b o q _ => ⟨o, k b o q, rfl⟩, oe, vs, T, oT, ts, k _ _ q1, q2, q3, q4, q5, q6, k _ _ q7, q8⟩
theorem upTo_grow {h h' : Heap} (k : ∀ b o, h.get? b = some o → h'.get? b = some o) : h.UpToSlots h' := fun b o q _ => ⟨o.slots, k b o q⟩
section
variable {X : Cx} {body : List Stmt} {n : Str} {i : Nat} {h₀ : ExceptHandler} {hds : List ExceptHandler} {l : List (List Value × (Addr → Value → Option Addr → TS))} {pos : Pos} {tb : WX → TS} {Wout : WX}
theorem clauses_run {pins : List (Addr × Obj)} {σ' : L2.St} {H' : Hp} {sI : Shared} {D : Ends} {B : Heap} {a : Addr} {cls : Value} {d : Option Addr} (hs : X.stack = X.env :: X.outer) (hf : X.env.frame = some X.env.locals) (hN : X.N.Nodup) (hi : X.N[i]? = some n) (hln : X.env.kindOf n = some .local) (tk : Takes X Wout) (ok : X.Ok)
    (J : Inv X pins σ' H' sI) (nb : ∀ b o, sI.heap.get? b = some o → b ∉ frs X.stack → B.get? b = some o) (na : H' a = none) : ∀ {hds : List ExceptHandler} {l : List (List Value × (Addr → Value → Option Addr → TS))}, ClsOk X n hds l → ∀ {s' : Shared}, s'.os = sI.os → AllBare s'.gens → sI.heap.UpToSlots s'.heap → HandSPX.FlyingZ B (X.env :: X.outer) a (Zc cls d) s'.heap →
    wClauses X.K i Wout D l cls d σ' H' → wpAny (model X.prog X.w) X.A (handleBy (.ref a) X.env hds) (SP X pins D) X.xe s' := by
  intro hds l hk
  induction hk with
  | nil =>
    intro s' os ag up fl w
    refine wpAny_handleBy_nil ?_
    obtain ⟨_, _, _, oe, vs, T, oT, ts', g1, _, g3, g4, _⟩ := id fl
    unfold PySem.passOn
    refine wpAny_bind (wpAny_field g1 g3 g4 ?_)
    rw [if_neg (show ¬ ((Value.ref T == Value.none) = true) from by simp)]
    have last : wpAny (model X.prog X.w) X.A (setFlight (.ref a) X.env.frame) (fun _ s4 => wpAny (model X.prog X.w) X.A (throw (.ref a) : Sem Flow) (SP X pins D) X.xe s4) X.xe s' := by
      rw [hf]
      refine HandSPX.setFlight_upZ fl fun h4 hh4 up4 => wpAny_throw (tk _ _ ⟨a, B, sI, pins, σ', H', cls, d, rfl, J, nb, up.trans up4, .inr (.inr (by rw [hs]; exact hh4)), na, os, ag, w⟩)
    first
      | exact wpAny_bind (wpAny_pure (wpAny_bind last))
      | exact wpAny_bind last
  | @cons t cs ts b₀ suite cpos hds2 l2 ht hsu r ih =>
    intro s' os ag up fl w
    obtain ⟨b, hb, yes, no⟩ := w
    have away : ∀ {h : Heap} {o : Obj} {vs : Array Value}, h.FunFrames B (X.env :: X.outer) → h.get? a = some o → o.data = .fields vs → a ∉ frs (X.env :: X.outer) := fun {h o vs} ff e1 e2 hm => by
      obtain ⟨_, o2, e3, e4⟩ := ff.mem hm
      rw [e1] at e3; cases e3
      exact e4 _ e2
    have J3 : Inv X pins σ' H' s' := J.landed nb fl.1 up os ag
    obtain ⟨oe, vs, he, hz, hd⟩ := fl.there
    have nfr := away fl.2.2.1 he hd
    have nL : a ≠ X.env.locals := fun z => nfr (List.mem_filterMap.mpr ⟨X.env, List.mem_cons_self, by rw [hf, z]⟩)
    have nF : a ∉ X.fs := fun hm => by
      obtain ⟨e, he, q⟩ := List.mem_filterMap.mp hm
      exact nfr (List.mem_filterMap.mpr ⟨e, List.mem_cons_of_mem _ he, q⟩)
    refine PySem.W.exc_clause_as (ht (J3.suite he hd na nL nF) fun c' h' kp mt => ?_)
    have fl' := flying_grow fl kp
    have up' := up.trans (upTo_grow kp)
    refine ⟨b, mt cls b a (fun A Q E s k q => wpAny_typeOf_ref (k _ _ (kp _ _ he)) (by rw [hz.1]; exact q)) hb, ?_⟩
    cases b with
    | false => exact ih os ag up' fl' (no rfl)
    | true =>
      refine HandSPX.lands_againZ fl' fun h4 fl4 up4 => ?_
      have J4 : Inv X pins σ' H' { s' with heap := h4 } := J.landed nb fl4.1 (up'.trans up4) os ag
      obtain ⟨oe4, vs4, he4, hz4, hd4⟩ := fl4.there
      refine store_ok (X := X.suite a ((a, oe4) :: (X.pn ++ pins))) (v := .ref a) (J4.suite he4 hd4 na nL nF) hN hi (.inl hln) rfl (fun s5 S5 => ?_) (.inr hln)
      refine wpAny_mono ((hsu a oe4 cls d (X.pn ++ pins) hz4 ⟨_, hd4⟩).run [] s5 _ H' _ S5 (yes rfl a na)) (fun f s6 hsp => ?_) (fun _ _ z => False.elim z)
      have fin : ∀ {σ6 : L2.St} {H6 : Hp} {Q : Shared → Prop}, Inv (X.suite a ((a, oe4) :: (X.pn ++ pins))) [] σ6 H6 s6 → (∀ s7, Inv X pins (σ6.set i none) H6 s7 → Q s7) →
          wpAny (model X.prog X.w) X.A (do bindName X.env n .none; unbindBehindTheSuite X.env n cpos) (fun _ s7 => Q s7) X.xe s6 := fun {σ6 H6 Q} S6 hq => gone_ok (S6.unsuite ok) hN hi hln hq
      cases f with
      | next => obtain ⟨σ6, H6, S6, q6⟩ := hsp; exact fin S6 fun s7 J7 => ⟨_, _, J7, q6⟩
      | brk => obtain ⟨σ6, H6, S6, q6⟩ := hsp; exact fin S6 fun s7 J7 => ⟨_, _, J7, q6⟩
      | cont => obtain ⟨σ6, H6, S6, q6⟩ := hsp; exact fin S6 fun s7 J7 => ⟨_, _, J7, q6⟩
      | ret u => obtain ⟨v6, σ6, H6, S6, r6, q6⟩ := hsp; exact fin S6 fun s7 J7 => ⟨_, _, _, J7, r6, q6⟩
/-- try: .. except (A, B) as n: .. except C as n: .. -/
theorem ps_tryAs (hs : X.stack = X.env :: X.outer) (hf : X.env.frame = some X.env.locals) (hN : X.N.Nodup) (hi : X.N[i]? = some n) (hln : X.env.kindOf n = some .local) (tk : Takes X Wout)
    (hb : ∀ (W : WX) (pn : List (Addr × Obj)) (xe : Value → Shared → Prop), Takes (X.tr pn xe) W → PassesOwn (model X.prog X.w) X.A X.env xe → PSs (X.tr pn xe) body (tb W)) (hh : ClsOk X n (h₀ :: hds) l) :
    PS X (.Try body (h₀ :: hds) [] [] pos) (fun D σ H => tb (wClauses X.K i Wout D l) D σ H) := by
  refine ⟨fun pins s σ H D I h => ?_⟩
  have ok := I.ok
  have hfr : X.A.frames = some (X.env :: X.outer) := by rw [ok.frames, hs]
  refine wpAny_Try_except ?_
  have run := (hb (wClauses X.K i Wout D l) (X.pn ++ pins) (fun e s₁ => wpAny (model X.prog X.w) X.A (noteFrame e X.env) (fun _ s₂ => wpAny (model X.prog X.w) X.A (setFlight e none) (fun _ s₃ => wpAny (model X.prog X.w) X.A (handleBy e X.env (h₀ :: hds)) (SP X pins D) X.xe s₃) X.xe s₂) X.xe s₁) (fun u s' xx => by
      obtain ⟨a, B, sI, pins', σ', H', cls, d, rfl, J', nb, up, sky, na, os, ag, w⟩ := xx
      have sky2 : Sky B (X.env :: X.outer) a (Zc cls d) X.env.locals s'.heap := by rw [← hs]; exact sky
      show wpAny (model X.prog X.w) X.A (noteFrame (.ref a) X.env) _ _ _
      exact Sky.land Zc.steady hfr hf sky2 fun h3 fl3 up3 => clauses_run (B := B) hs hf hN hi hln tk ok (J'.ofTry ok) nb na hh (s' := { s' with heap := h3 }) os ag (up.trans up3) fl3 w) PassesOwn.looking).run [] s σ H D (I.toTry _) h
  refine wpAny_mono run (fun f s1 hsp => ?_) (fun e s1 he => he)
  cases f with
  | next => obtain ⟨σ', H', J', q⟩ := hsp; exact wpAny_execs_nil ⟨σ', H', J'.ofTry ok, q⟩
  | brk => obtain ⟨σ', H', J', q⟩ := hsp; exact ⟨σ', H', J'.ofTry ok, q⟩
  | cont => obtain ⟨σ', H', J', q⟩ := hsp; exact ⟨σ', H', J'.ofTry ok, q⟩
  | ret u => obtain ⟨v, σ', H', J', r, q⟩ := hsp; exact ⟨v, σ', H', J'.ofTry ok, r, q⟩
end
end Y
/-! ### exceptions of one's own over ValueError, LookupError, IndexError: made, raised -/
namespace Y
open PySem PySem.Spec PyProof.Rows L2
/-- a base: its own __new__, the mro from it on -/
structure XB where
  B : String
  newI : String
  iniI : String
  tl : List Value
def xbV : XB := ⟨"ValueError", "ValueError.__new__", "ValueError.__init__", [.type "ValueError", .type "Exception", .type "BaseException", .type "object"]⟩
structure XbOk (b : XB) : Prop where
  F : ExcBaseFacts b.B b.newI b.iniI b.tl
  pass : ∀ self, refuseLoop self "__setattr__" b.tl = pure ()
  obj : b.tl.contains (.type "object") = true
  ne : b.tl ≠ []
theorem xbV_ok : XbOk xbV := ⟨PySem.F.excBase_ValueError, PySem.F.store_ValueError.passes, by decide +kernel, by decide⟩
theorem refsT_cases {tl : List Value} : ∀ l : List Value, refsT tl l = true → (∃ c r, l = .ref c :: r ∧ refsT tl r = true) ∨ l = tl
  | [], e => .inr (beq_iff_eq.mp e)
  | x :: r, e => by
    cases x with
    | ref c => exact .inl ⟨c, r, rfl, e⟩
    | _ => exact .inr (beq_iff_eq.mp e)
theorem refsT_pass {b : XB} (O : XbOk b) (self : Value) : ∀ l : List Value, refsT b.tl l = true → refuseLoop self "__setattr__" l = pure () := by
  intro l
  induction l with
  | nil =>
    intro e
    rcases refsT_cases [] e with ⟨c, r, q, _⟩ | q
    · cases q
    · rw [q]; exact O.pass self
  | cons x r ih =>
    intro e
    rcases refsT_cases (x :: r) e with ⟨c, r', q, h⟩ | q
    · obtain ⟨rfl, rfl⟩ := List.cons.inj q
      rw [refuseLoop_ref]; exact ih h
    · rw [q]; exact O.pass self
theorem refsT_has {tl : List Value} (X : String) : ∀ l : List Value, refsT tl l = true → l.contains (.type X) = tl.contains (.type X) := by
  intro l
  induction l with
  | nil =>
    intro e
    rcases refsT_cases [] e with ⟨c, r, q, _⟩ | q
    · cases q
    · rw [q]
  | cons x r ih =>
    intro e
    rcases refsT_cases (x :: r) e with ⟨c, r', q, h⟩ | q
    · obtain ⟨rfl, rfl⟩ := List.cons.inj q
      rw [List.contains_cons, ih h]; rfl
    · rw [q]
section
open PySem.W PySem.Calls PySem.HandSPX Builtin Builtin.ObjectAttr
variable {prog : Program} {w : World} {A : Around} {E : Value → Shared → Prop} {R : Result → Shared → Prop} {hp : Heap} {g : Array GenState} {d : Drawn} {t : Nat} {os : OsState} {b : XB}
/-- a field of an exception: its dict is made, or it is there -/
theorem osaT_old {K : PySem.W.Frag} {name : Str} {tk : Tok} {v : Value} {x C dx : Addr} {fv : Array Value} {cd : ClassData} {m0 : Str → Option Value} {nl : List Str} (O : XbOk b)
    (X : K.In hp) (hx : hp.get? x = some { cls := .ref C, dict := some dx, data := .fields fv }) (hns : hp.Ns1 dx m0) (hw : Within m0 nl) (hz : nl.length ≤ 1000) (hcd : PySem.W.clsIn K C = some cd) (hm : refsT b.tl cd.mro = true) (hn0 : cd.mro ≠ []) (hh : cd.hasDict = true)
    (ha : PySem.W.findIn K (.ref C) name = some none)
    (hq : ∀ h' tk', (∀ b o, b ≠ dx → hp.get? b = some o → h'.get? b = some o) → h'.Ns1 dx (fun y => if y = name then some v else m0 y) → R (.ok (.ret .none)) ⟨h', g, d, tk', os⟩) :
    codeAny (model prog w) A (.call (.builtin "object.__setattr__") ⟨[.ref x, .str name tk, v], []⟩) R ⟨hp, g, d, t, os⟩ := by
  obtain ⟨oD, esD, epD, hoD, hdD, _⟩ := hns.count hw
  have I : PySem.W.InstAt hp x { cls := .ref C, dict := some dx, data := .fields fv } C (some oD) := ⟨hx, rfl, rfl, hoD⟩
  have SF := F.store_object
  have hob : cd.mro.contains (.type "object") = true := (refsT_has "object" _ hm).trans O.obj
  have hie : cd.mro.isEmpty = false := by cases h : cd.mro with | nil => exact absurd h hn0 | cons _ _ => rfl
  have sub : PySem.W.Looks (model prog w) hp (isInstance (.ref x) (.type "object")) true := I.type.andThen (PySem.W.looks_mroIn X (by unfold PySem.W.mroIn; rw [hcd, Option.bind_some, if_neg (by rw [hie]; decide), hob]))
  refine codeAny_call_builtin SF.slot.plain SF.entry (@PySem.W.check_slot (model prog w) _ _ ⟨hp, g, d, t, os⟩ "object.__setattr__" "object" "__setattr__" (.ref x) [.str name tk, v] [] _ SF.kind SF.split sub (SF.args (.ref x) (.str name tk) v) ?_)
  have hmr : PySem.W.Looks (model prog w) hp (mroOf (.ref C)) cd.mro := (PySem.W.looks_clsIn X hcd).andThen .now
  have L3 : PySem.W.Looks (model prog w) hp (storeTaker? none) none := .now
  have hcls : PySem.W.Looks (model prog w) hp (classData C) cd := PySem.W.looks_clsIn X hcd
  rw [PySem.W.osa_eq, refuse_eq]
  refine wpAny_bind (wpAny_bind (I.type.at (wpAny_bind (hmr.at ?_))))
  rw [refsT_pass O _ _ hm]
  refine wpAny_pure (wpAny_bind (I.type.at (wpAny_bind ((PySem.W.looks_findIn X ha).at (wpAny_bind (L3.at ?_))))))
  show wpAny _ _ (storeInOwnDict (.ref x) (.ref C) (.str name tk) name v false) _ _ _
  obtain ⟨nm, bs, mro, ns, qn, hd, sn, sb, ab, col, del⟩ := cd
  dsimp only at hh
  subst hh
  unfold storeInOwnDict ownDictForStores
  repeat (first | with_reducible refine PySem.OEX.store_in_old hns hw hz ?_ | with_reducible refine wpAny_loadPart_at hx ?_ | with_reducible refine hcls.at ?_ | wp_step)
  intro h' tk' hn' hs
  exact hq h' tk' (fun b o hb ho => (hs.2 b hb).trans ho) hn'
theorem osaT_new {K : PySem.W.Frag} {name : Str} {tk : Tok} {v : Value} {x C : Addr} {fv : Array Value} {cd : ClassData} (O : XbOk b)
    (X : K.In hp) (hx : hp.get? x = some { cls := .ref C, data := .fields fv }) (hcd : PySem.W.clsIn K C = some cd) (hm : refsT b.tl cd.mro = true) (hn0 : cd.mro ≠ []) (hh : cd.hasDict = true) (ha : PySem.W.findIn K (.ref C) name = some none)
    (hq : ∀ h' tk' dx, (∀ b o, b ≠ x → hp.get? b = some o → h'.get? b = some o) → hp.objs.size ≤ dx → dx ≠ x → h'.get? x = some { cls := .ref C, dict := some dx, data := .fields fv } →
      h'.Ns1 dx (fun y => if y = name then some v else none) → R (.ok (.ret .none)) ⟨h', g, d, tk', os⟩) :
    codeAny (model prog w) A (.call (.builtin "object.__setattr__") ⟨[.ref x, .str name tk, v], []⟩) R ⟨hp, g, d, t, os⟩ := by
  have I : PySem.W.InstAt hp x { cls := .ref C, data := .fields fv } C none := ⟨hx, rfl, rfl, trivial⟩
  have SF := F.store_object
  have hob : cd.mro.contains (.type "object") = true := (refsT_has "object" _ hm).trans O.obj
  have hie : cd.mro.isEmpty = false := by cases h : cd.mro with | nil => exact absurd h hn0 | cons _ _ => rfl
  have hxs : x ≠ hp.objs.size := Nat.ne_of_lt (Heap.lt_size hx)
  have sub : PySem.W.Looks (model prog w) hp (isInstance (.ref x) (.type "object")) true := I.type.andThen (PySem.W.looks_mroIn X (by unfold PySem.W.mroIn; rw [hcd, Option.bind_some, if_neg (by rw [hie]; decide), hob]))
  refine codeAny_call_builtin SF.slot.plain SF.entry (@PySem.W.check_slot (model prog w) _ _ ⟨hp, g, d, t, os⟩ "object.__setattr__" "object" "__setattr__" (.ref x) [.str name tk, v] [] _ SF.kind SF.split sub (SF.args (.ref x) (.str name tk) v) ?_)
  have hmr : PySem.W.Looks (model prog w) hp (mroOf (.ref C)) cd.mro := (PySem.W.looks_clsIn X hcd).andThen .now
  have L3 : PySem.W.Looks (model prog w) hp (storeTaker? none) none := .now
  have hcls : PySem.W.Looks (model prog w) hp (classData C) cd := PySem.W.looks_clsIn X hcd
  rw [PySem.W.osa_eq, refuse_eq]
  refine wpAny_bind (wpAny_bind (I.type.at (wpAny_bind (hmr.at ?_))))
  rw [refsT_pass O _ _ hm]
  refine wpAny_pure (wpAny_bind (I.type.at (wpAny_bind ((PySem.W.looks_findIn X ha).at (wpAny_bind (L3.at ?_))))))
  show wpAny _ _ (storeInOwnDict (.ref x) (.ref C) (.str name tk) name v false) _ _ _
  obtain ⟨nm, bs, mro, ns, qn, hd, sn, sb, ab, col, del⟩ := cd
  dsimp only at hh
  subst hh
  unfold storeInOwnDict ownDictForStores
  repeat (first | with_reducible refine store_in_new ?_ ?_ | with_reducible refine wpAny_loadPart_at hx ?_ | with_reducible refine hcls.at ?_ | wp_step)
  · exact ⟨_, #[], _, (Heap.get?_update_ne _ _ _ _ hxs.symm).trans (Heap.get?_push_at rfl rfl), rfl, fun e he => absurd he (by simp), fun _ => rfl⟩
  · intro h' tk' hn' hs
    have hx₁ : (hp.push { cls := .type "dict", data := .dict #[] }).get? x = some { cls := .ref C, data := .fields fv } := Heap.get?_push_of_some _ hx
    refine hq h' tk' hp.objs.size (fun b o hb ho => ?_) (Nat.le_refl _) hxs.symm ?_ hn'
    · exact (hs.2 b (Nat.ne_of_lt (Heap.lt_size ho))).trans ((Heap.get?_update_ne _ _ _ _ hb).trans (Heap.get?_push_of_some _ ho))
    · exact (hs.2 x hxs).trans (Heap.get?_update_self _ hx₁ rfl)
end
/-- what the written part says of such a class -/
structure OexG (b : XB) (K : PySem.W.Frag) (C : Addr) : Prop where
  cls : ∃ nm q N bs bm sn sub ab col dd k0 k1 k2 k3 k5, K.lookup C = some (excClassObj nm q C N bs bm true sn sub ab col dd k0 k1 k2 k3 k5 b.newI) ∧ refsT b.tl bm = true
  sa : PySem.W.findIn K (.ref C) "__setattr__" = some (some (.builtin "object.__setattr__"))
  exC : PySem.W.subIn K (.ref C) (.type "BaseException") = some true
  tyC : PySem.W.typeIn K (.ref C) = some (.type "type")
  kC : PySem.W.keepIn K (.ref C) = true
section
variable {X : Cx} {A : Around} {E : Value → Shared → Prop} {pins : List (Addr × Obj)} {σ : L2.St} {H : Hp} {s : Shared} {a C dx : Addr} {f : Str} {y : V} {u : Value} {fs : List (Str × V)} {Q : Unit → Shared → Prop} {b : XB}
theorem ostT_new (O : XbOk b) (T : OexG b X.K C) (I : Inv X pins σ H s) (e : H a = some (exo a C none)) (hno : PySem.W.findIn X.K (.ref C) f = some none) (ry : RelV y u)
    (h : ∀ dx s', H dx = none → dx ≠ a → Inv X pins σ (upd (upd H dx (exd dx [(f, y)])) a (exo a C (some dx))) s' → Q () s') : wpAny (model X.prog X.w) A (setAttr (.ref a) f u) Q E s := by
  obtain ⟨nm, q, N, bs, bm, sn, sub, ab, col, dd, k0, k1, k2, k3, k5, hC, hbm⟩ := T.cls
  have hcl : PySem.W.clsIn X.K C = some { name := nm, bases := bs, mro := .ref C :: bm, ns := N, qualname := q, hasDict := true, slotNames := sn, subclasses := sub, abstract := ab, collection := col, hasDel := false } := by unfold PySem.W.clsIn; rw [hC] <;> rfl
  obtain ⟨t1, ho⟩ := exo_at I.hok e
  obtain ⟨hp, g, d, t, os⟩ := s
  refine PySem.W.set_plain I.kIn (ox := { cls := .ref C, dict := none, data := .fields #[.ref t1, .none, .none, .none, .bool false, .none] }) (od := none) ⟨ho, rfl, rfl, trivial⟩ T.sa ?_
  refine osaT_new O I.kIn ho hcl (show refsT b.tl (.ref C :: bm) = true from hbm) (List.cons_ne_nil _ _) rfl hno (fun h' tk' dx k dn dne hx hn => ?_)
  have hnd : H dx = none := I.hok.fresh dn
  have nd : ∀ {b : Addr} {o : Obj}, hp.get? b = some o → b ≠ dx := fun {b o} q => Nat.ne_of_lt (Nat.lt_of_lt_of_le (Heap.lt_size q) dn)
  have na : ∀ {b : Addr}, H b = none → b ≠ a := fun {b} n z => by rw [z, e] at n; cases n
  have U : Un X.fs [] H (upd (upd H dx (exd dx [(f, y)])) a (exo a C (some dx))) hp h' := by
    refine ⟨fun b o q n _ _ => k b o (na n) q, fun b o q n _ _ => ⟨o.slots, k b o (na n) q⟩, fun b o q n _ => ?_, fun b o q _ => ?_, fun b xs q => ?_, fun b o v q => ?_, fun b ps q => ⟨#[], ?_⟩⟩
    · rw [upd_ne (na n), upd_ne (nd q)]; exact n
    · by_cases hb : b = a
      · exact ⟨_, hb ▸ hx⟩
      · exact ⟨o, k b o hb q⟩
    · rw [upd_ne (at_ne e q exo_tup), upd_ne (ne_of_none q hnd)]; exact q
    · rw [upd_ne (at_ne e q exo_frz), upd_ne (ne_of_none q hnd)]; exact q
    · rw [upd_ne (at_ne e q exo_tbl), upd_ne (ne_of_none q hnd), q]; simp
  refine h dx _ hnd dne (I.un (t' := tk') U fun b o q => ?_)
  by_cases hb : b = a
  · subst hb
    rw [upd_same] at q; cases q
    exact exo_ok hx
  · rw [upd_ne hb] at q
    by_cases hd : b = dx
    · subst hd
      rw [upd_same] at q; cases q
      exact exd_ok hn (relO_put (fs := []) ry fun g => True.intro)
    · rw [upd_ne hd] at q
      refine (I.hok b o q).stay (fun c v hc z => k c v ?_ z) (fun c hc => by rw [upd_ne (at_ne e hc exo_own), upd_ne (ne_of_none hc hnd)]; exact hc) (fun c xs hc => by rw [upd_ne (at_ne e hc exo_tup), upd_ne (ne_of_none hc hnd)]; exact hc)
      rcases hc with hc | hc
      · exact hc ▸ hb
      · exact at_ne e hc exo_own
theorem ostT_old (O : XbOk b) (T : OexG b X.K C) (I : Inv X pins σ H s) (e : H a = some (exo a C (some dx))) (ed : H dx = some (exd dx fs)) (hl : fs.length ≤ 900) (hno : PySem.W.findIn X.K (.ref C) f = some none) (ry : RelV y u)
    (h : ∀ s', Inv X pins σ (upd H dx (exd dx ((f, y) :: fs))) s' → Q () s') : wpAny (model X.prog X.w) A (setAttr (.ref a) f u) Q E s := by
  obtain ⟨nm, q, N, bs, bm, sn, sub, ab, col, dd, k0, k1, k2, k3, k5, hC, hbm⟩ := T.cls
  have hcl : PySem.W.clsIn X.K C = some { name := nm, bases := bs, mro := .ref C :: bm, ns := N, qualname := q, hasDict := true, slotNames := sn, subclasses := sub, abstract := ab, collection := col, hasDel := false } := by unfold PySem.W.clsIn; rw [hC] <;> rfl
  obtain ⟨t1, ho⟩ := exo_at I.hok e
  obtain ⟨mA, hns, rel⟩ := exd_at I.hok ed
  have hw := within_of rel
  obtain ⟨hp, g, d, t, os⟩ := s
  obtain ⟨oD, _, _, hoD, _, _⟩ := hns.count hw
  refine PySem.W.set_plain I.kIn (ox := { cls := .ref C, dict := some dx, data := .fields #[.ref t1, .none, .none, .none, .bool false, .none] }) (od := some oD) ⟨ho, rfl, rfl, hoD⟩ T.sa ?_
  refine osaT_old O I.kIn ho hns hw (by rw [List.length_map]; omega) hcl (show refsT b.tl (.ref C :: bm) = true from hbm) (List.cons_ne_nil _ _) rfl hno (fun h' tk' k hn => ?_)
  have hd : ∃ o, h'.get? dx = some o := let ⟨o, _, _, e', _⟩ := hn; ⟨o, e'⟩
  exact h _ (I.write (t' := tk') (x := dx) (e := dx) (o := exd dx ((f, y) :: fs)) (by rw [ed]; exact True.intro) (.inl rfl) k hd (exd_ok hn (relO_put ry rel)))
end
/-! readings -/
def tOsT (b : XB) (K : PySem.W.Frag) (f : Str) (to te : TE) : TS := fun D σ H => te σ H fun y H1 => to σ H1 fun x H2 => ∃ a C : Addr, x = .ref a ∧ OexG b K C ∧ PySem.W.findIn K (.ref C) f = some none ∧
  ((H2 a = some (exo a C none) ∧ ∀ dx, H2 dx = none → dx ≠ a → D.nx σ (upd (upd H2 dx (exd dx [(f, y)])) a (exo a C (some dx)))) ∨
    ∃ (dx : Addr) (fs : List (Str × V)), H2 a = some (exo a C (some dx)) ∧ H2 dx = some (exd dx fs) ∧ fs.length ≤ 900 ∧ D.nx σ (upd H2 dx (exd dx ((f, y) :: fs))))
section
variable {X : Cx} {o e : Expr} {es : List Expr} {to te : TE} {ta : TA} {f : Str} {p p' p1 p2 pos : Pos} {b : XB}
theorem ps_osT (O : XbOk b) (ho : PE X o to) (he : PE X e te) (hs : swapsWith e (some (.Attribute o f p')) pos.line X.env = pure false := by rfl) : PS X (.Assign [.Attribute o f p'] e pos) (tOsT b X.K f to te) := by
  refine ⟨fun pins s σ H D I h => ?_⟩
  refine plainObj_wpAny_Assign_Attribute (thn (he.run pins s σ H _ I h) fun v s1 ⟨y, H1, I1, r1, q1⟩ => thn (ho.run pins s1 σ H1 _ I1 q1) fun u s2 ⟨x, H2, I2, r2, a, C, ex, T, hno, q⟩ => ?_) hs
  subst ex
  obtain rfl : u = Value.ref a := r2
  rcases q with ⟨ea, q⟩ | ⟨dx, fs, ea, ed, hl, q⟩
  · exact ostT_new O T I2 ea hno r1 fun dx s' n ne J => ⟨σ, _, J, q dx n ne⟩
  · exact ostT_old O T I2 ea ed hl hno r1 fun s' J => ⟨σ, _, J, q⟩
/-- the end of its making: its context is none -/
theorem mk_endN {X : Cx} {pins : List (Addr × Obj)} {σ : L2.St} {H1 H2 : Hp} {Q : XK} {hp hp2 h2 : Heap} {g1 g2 : Array GenState} {d1 d2 : Drawn} {t1 t2 : Nat} {os1 os2 : OsState} {a C d : Addr} {fs : List (Str × V)} (T : Raises X (.ref C)) (I1 : Inv X pins σ H1 ⟨hp, g1, d1, t1, os1⟩) (ha : hp.objs.size ≤ a)
    (k : ∀ b o, hp.get? b = some o → hp2.get? b = some o) (un : Un (frs X.stack) [] (upd H1 a (exo a C none)) H2 hp2 h2) (hok : HOk X.prog X.w H2 h2) (ho : os2 = os1) (hb : AllBare g2) (ea : H2 a = some (exo a C (some d))) (ed : H2 d = some (exd d fs)) (hd1 : H1 d = none) (q : Q (.ref C) (some d) (upd (del H2 a) d (.xd fs))) : L2N.MkP X pins σ Q (.ref a) ⟨h2, g2, d2, t2, os2⟩ := by
  obtain ⟨t0, G, J, kG, ge, hoe, na⟩ := mk_end0 (d2 := d2) (t2 := t2) I1 ha k un hok ho hb ea ed hd1
  exact ⟨a, _, _, ⟨G, g2, d2, t2, os2⟩, _, .ref C, some d, rfl, J, kG, ge, hoe, ⟨rfl, rfl, fun vs e => by cases e; rfl⟩, rfl, rfl, na, rfl, hb, T, q⟩
/-- the object is made, its __init__ runs -/
theorem mkT_run {CX : CXT} {C fI : Addr} {k : Nat} {fd : FuncData} {ps : List Str} {sp : Sp} {pins : List (Addr × Obj)} {s1 : Shared} {σ : L2.St} {H1 : Hp} {Q : XK} {us : List Value} {vs : List V} (O : XbOk b) (T : OexG b X.K C) (iC : PySem.W.findIn X.K (.ref C) "__init__" = some (some (.ref fI))) (tI : PySem.W.typeIn X.K (.ref fI) = some (.type "function"))
    (F1 : FnOk X.prog X.w X.K X.mg X.base CX k fI fd ps sp) (hr : Room (k + 1) X.A) (hb : Binds X.K fd ps []) (hx : Passes CX X (fun _ _ _ => False)) (I1 : Inv X pins σ H1 s1) (r1 : Vals vs us) (hz : vs.length ≤ 1000)
    (q1 : ∀ a, H1 a = none → sp (.ref a :: vs) (upd H1 a (exo a C none)) (fun v H2 => v = .non ∧ ∃ (d : Addr) (fs : List (Str × V)), H2 a = some (exo a C (some d)) ∧ H2 d = some (exd d fs) ∧ H1 d = none ∧ Q (.ref C) (some d) (upd (del H2 a) d (.xd fs))) (fun _ _ _ => False)) :
    wpAny (model X.prog X.w) X.A (call (.ref C) us) (L2N.MkP X pins σ Q) X.xe s1 := by
  obtain ⟨nm, q, N, bs, bm, sn, sub, ab, col, dd, k0, k1, k2, k3, k5, hC, hbm⟩ := T.cls
  obtain ⟨hp, g, dr, tk, os⟩ := s1
  have hsz : hp.objs.size ≤ hp.objs.size + 1 := Nat.le_succ _
  have hn : H1 (hp.objs.size + 1) = none := I1.hok.fresh hsz
  have hq := q1 (hp.objs.size + 1) hn
  have kk : ∀ b o, hp.get? b = some o → ((hp.push (PySem.W.kdv_tup us)).push (PySem.HandSPX.excO C hp.objs.size)).get? b = some o := fun b o e => Heap.get?_push_of_some _ (Heap.get?_push_of_some _ e)
  have hget : ((hp.push (PySem.W.kdv_tup us)).push (PySem.HandSPX.excO C hp.objs.size)).get? (hp.objs.size + 1) = some (PySem.HandSPX.excO C hp.objs.size) := by heap_get
  have I2 : Inv X pins σ (upd H1 (hp.objs.size + 1) (exo (hp.objs.size + 1) C none)) ⟨(hp.push (PySem.W.kdv_tup us)).push (PySem.HandSPX.excO C hp.objs.size), g, dr, tk, os⟩ :=
    I1.laid (t' := tk) (a := hp.objs.size + 1) (o := exo (hp.objs.size + 1) C none) (h' := (hp.push (PySem.W.kdv_tup us)).push (PySem.HandSPX.excO C hp.objs.size)) kk hsz (exo_ok hget)
  have r2 : Vals (V.ref (hp.objs.size + 1) :: vs) (Value.ref (hp.objs.size + 1) :: us) := .cons rfl r1
  have hl : (Value.ref (hp.objs.size + 1) :: us).length = ps.length := by
    have e := r2.length
    rw [F1.len _ _ _ _ hq] at e
    exact e.symm
  have hus : us.length ≤ sizeLine := by
    rw [← Paired.length r1, sizeLine_eq]; omega
  have hbb := hb _ (Value.ref (hp.objs.size + 1) :: us) I2.kIn (by rw [List.append_nil]; exact hl)
  rw [List.append_nil] at hbb
  refine wpAny_call (PySem.HandSPX.call_own O.F (fun Y => refsT_has Y bm hbm) (I1.kIn _ _ hC) (PySem.W.looks_findIn I1.kIn iC) (fun self => PySem.W.bind_fn I1.kIn self tI) hus
    (codeAny_mono (F1.run _ X.stack _ _ ⟨Value.ref (hp.objs.size + 1) :: us, []⟩ (Value.ref (hp.objs.size + 1) :: us) _ _ (fun _ _ _ => False) (hr.make C us []) (I2.env0.make C us []) hbb r2 hq) fun r s' hq' => ?_))
  cases r with
  | error er => exact hx pins σ _ _ er s' I2 hq'
  | ok fl =>
    cases fl with
    | ret u =>
      obtain ⟨v, H2, os2, bare2, un2, hok2, rv, ev, d, fs, ea, ed, hd1, q2⟩ := hq'
      subst ev
      obtain ⟨h2, g2, d2, t2, os'⟩ := s'
      exact ⟨rv, mk_endN (raises_own T.exC T.tyC) I1 hsz kk un2 hok2 os2 bare2 ea ed hd1 q2⟩
    | next => exact False.elim hq'
    | brk => exact False.elim hq'
    | cont => exact False.elim hq'
def tMkT (C : Addr) (sp : Sp) (ta : TA) : L2.St → Hp → XK → Prop := fun σ H Q => ta σ H fun vs H1 => vs.length ≤ 1000 ∧ ∀ a, H1 a = none → sp (.ref a :: vs) (upd H1 a (exo a C none))
  (fun v H2 => v = .non ∧ ∃ (d : Addr) (fs : List (Str × V)), H2 a = some (exo a C (some d)) ∧ H2 d = some (exd d fs) ∧ H1 d = none ∧ Q (.ref C) (some d) (upd (del H2 a) d (.xd fs))) (fun _ _ _ => False)
theorem pmk_T {CX : CXT} {x : Str} {C fI : Addr} {k : Nat} {fd : FuncData} {ps : List Str} {sp : Sp} (O : XbOk b) (T : OexG b X.K C) (iC : PySem.W.findIn X.K (.ref C) "__init__" = some (some (.ref fI))) (tI : PySem.W.typeIn X.K (.ref fI) = some (.type "function"))
    (F1 : FnOk X.prog X.w X.K X.mg X.base CX k fI fd ps sp) (hr : Room (k + 1) X.A) (hb : Binds X.K fd ps []) (hx : Passes CX X (fun _ _ _ => False)) (hg : Gl X x) (hm : X.mg x = some (.ref C)) (ha : PA X (e :: es) ta)
    (hdb : (x == ("__debug__" : Str)) = false := by decide) (he : starEach (e :: es) X.env = (false, eval e X.env) :: starEach es X.env := by rfl) (hpl : (backTo pos (starEach es X.env)).any (·.1) = false := by rfl) :
    L2N.PMk X (.Call (.Name x p) (e :: es) [] pos) (tMkT C sp ta) := by
  intro pins s σ H Q I h
  refine wpAny_Call_Name_kw (ld_glob I hg hm ?_ hdb)
  refine PySem.W.callWith_K (h₀ := X.base) I.ok.mod.kin T.kC (thn (ha.run pos pins s σ H _ I h) fun us s1 ⟨vs, H1, I1, r1, hz, q1⟩ => ⟨I1.kIn, ?_⟩) he hpl
  exact mkT_run O T iC tI F1 hr hb hx I1 r1 hz q1
end
/-! over data -/
def spX (C : Addr) (f T : Str) : Sp := fun vs H Q _ => ∃ (a : Addr) (v : V), vs = [.ref a, v] ∧ H a = some (exo a C none) ∧
  ∀ dx, H dx = none → dx ≠ a → Q .non (upd (upd (upd H dx (exd dx [(f, v)])) a (exo a C (some dx))) dx (exd dx [("tag", .str T), (f, v)]))
structure ExG (b : XB) (P : Program) (w : World) (K : PySem.W.Frag) (mg : Str → Option Value) (base : Heap) (cls : CT) (c f T : Str) : Prop where
  ex : ∃ (C fI : Addr) (fd : FuncData) (ps : List Str), mg c = some (.ref C) ∧ cls c = some C ∧ OexG b K C ∧ PySem.W.findIn K (.ref C) "__init__" = some (some (.ref fI)) ∧ PySem.W.typeIn K (.ref fI) = some (.type "function") ∧
    FnOk P w K mg base (L2N.CX P w) 1 fI fd ps (spX C f T) ∧ Binds K fd ps []
def ExGF (b : XB) (K : PySem.W.Frag) (mg : Str → Option Value) (c f qual : Str) (st : Stmt) : Prop := ∃ C fI fd, mg c = some (.ref C) ∧ OexG b K C ∧ PySem.W.findIn K (.ref C) "__init__" = some (some (.ref fI)) ∧ PySem.W.typeIn K (.ref fI) = some (.type "function") ∧
  Fun K "__init__" qual st fI fd ∧ Binds K fd [("self" : Str), f] [] ∧ PySem.W.findIn K (.ref C) f = some none ∧ PySem.W.findIn K (.ref C) "tag" = some none
section
variable {P : Program} {w : World} {K : PySem.W.Frag} {mg : Str → Option Value} {base : Heap} {tb : List (Addr × Str)} {c f qual T : Str} {st : Stmt} {b : XB}
theorem exg_of (h : ExGF b K mg c f qual st) (S : FnScope [("self" : Str), f] [("self" : Str), f] (defScope st))
    (hp : ∀ X : Cx, X.N = [("self" : Str), f] → X.env.scope = defScope st → PSs X (defBody st) (tSeq (tOsT b X.K f (tVar 0) (tVar 1)) (tOsT b X.K "tag" (tVar 0) (tC (.str T))))) : ExG b P w K mg base (clsOf mg tb) c f T := by
  obtain ⟨C, fI, fd, h1, hO, hi, hty, F, hb, hf, ht⟩ := h
  refine ⟨C, fI, fd, _, h1, clsOf_eq h1, hO, hi, hty, okXN F S (fun vs H Q E h => by obtain ⟨a, v, rfl, _⟩ := h; rfl) (fun cdv A outer s H vs Q E hr h => ?_), hb⟩
  obtain ⟨a, v, rfl, ha, q⟩ := h
  refine ⟨_, hp _ rfl rfl, v, rfl, .ref a, rfl, a, C, rfl, hO, hf, .inl ⟨ha, fun dx nd ne => ⟨.ref a, rfl, a, C, rfl, hO, ht, .inr ⟨dx, [(f, v)], upd_same, ?_, by simp, q dx nd ne⟩⟩⟩⟩
  rw [upd_ne ne]; exact upd_same
end
def sRaise (c f T : Str) (fe : EM) : SM := fun S w => (fe S w).to S fun d w1 => .err S c [("tag", .str T), (f, d)] w1
section
variable {X : Cx} {g : G} {E : EK} {F0 : FH} {H0 : Hp} {e : Expr} {pos p pos2 : Pos} {fe : EM} {c f T : Str} {b : XB}
theorem ds_raiseG (O : XbOk b) (hc : X.calm = true) (M : ExG b X.prog X.w X.K X.mg X.base g.cls c f T) (hr : Room 2 X.A) (tk : L2N.Takes X (fun cls d σ H => E σ cls d H)) (ha : DE X g E e fe) (hx : Passes (L2N.CX X.prog X.w) X (fun _ _ _ => False)) (hg : Gl X c := by rfl) (hdb : (c == ("__debug__" : Str)) = false := by decide)
    (he : starEach [e] X.env = [(false, eval e X.env)] := by rfl) : DS X g E F0 H0 (.Raise (some (.Call (.Name c p) [e] [] pos)) none pos2) (sRaise c f T fe) := by
  obtain ⟨C, fI, fd, ps, hm, hcl, hO, hi, hty, F, hb⟩ := M.ex
  obtain ⟨ta, pa, ra⟩ := ha.run
  refine ⟨_, L2N.ps_raise hc tk (pmk_T (CX := L2N.CX X.prog X.w) O hO hi hty F hr hb hx hg hm (pa_cons pa pa_nil he) hdb he), fun N σ H F S w B R h => ?_⟩
  refine ra σ H _ F S w R.rel (PostG.imp (PostS.to R h) fun d w1 _ h1 v H1 F1 x1 r1 => ?_)
  refine ⟨by show 1 ≤ 1000; decide, fun a na => ⟨a, v, rfl, upd_same, fun dx nd ne => ?_⟩⟩
  have nd1 : H1 dx = none := by rw [upd_ne ne] at nd; exact nd
  refine ⟨rfl, dx, [("tag", .str T), (f, v)], ?_, upd_same, nd1, ?_⟩
  · rw [upd_ne ne.symm]; exact upd_same
  · have eq : upd (del (upd (upd (upd (upd H1 a (exo a C none)) dx (exd dx [(f, v)])) a (exo a C (some dx))) dx (exd dx [("tag", .str T), (f, v)])) a) dx (.xd [("tag", .str T), (f, v)]) = upd H1 dx (.xd [("tag", .str T), (f, v)]) := by
      funext b
      by_cases e1 : b = dx
      · rw [e1, upd_same, upd_same]
      · rw [upd_ne e1, upd_ne e1]
        by_cases e2 : b = a
        · rw [e2, del_same, na]
        · rw [del_ne e2, upd_ne e1, upd_ne e2, upd_ne e1, upd_ne e2]
    rw [eq]
    have x2 := Ext.own (o := .xd [("tag", .str T), (f, v)]) x1.sub x1.bx nd1
    exact h1 σ _ F1 (R.ext' (x1.trans x2)) C dx _ (R.ext.fresh (x1.fresh nd1)) hcl upd_same (.cons (.str T) (.cons r1 .nil))
end
/-! calls whose errors are taken by a plain wish -/
theorem cxN {P : Program} {w : World} {outer : List Env} {H : Hp} {s s' : Shared} {E : XK} {u : Value} (c : L2N.CX P w outer H s E u s') : L2.CX P w outer H s E u s' := by
  obtain ⟨a, B, H', cls, d, e, fl, r⟩ := c
  exact ⟨a, B, H', cls, d, e, L2H.flyingZ_imp (fun _ z => z.zc) fl, r⟩
theorem passes_pl {X : Cx} {W : WX} {E : XK} (tk : Takes X W) (hW : ∀ cls d σ H, E cls d H → W cls d σ H) : Passes (L2N.CX X.prog X.w) X E := fun pins σ H s e s' I c => passes_call tk hW pins σ H s e s' I (cxN c)
end Y
namespace Y
open PySem PySem.Spec PyProof.Rows L2
/-! ### a lambda, handed to a def of the law -/
/-- all but the tables stay, and nothing that was known is gone -/
structure ExtL (T : List (Addr × Str)) (H H1 : Hp) : Prop where
  ext : LamX.ExtN H H1
  dom : ∀ b, H1 b = none → H b = none
  tabs : LamX.Tabs T H1
section
variable {X : Cx} {pins : List (Addr × Obj)} {σ : L2.St} {H : Hp} {s : Shared}
end
section
variable {X : Cx}
end
end Y
namespace Y
open PySem PySem.Spec PyProof.Rows L2
/-! ### the def that tells which error a call raises -/
theorem Takes.len {X : Cx} {W : WX} (tk : Takes X W) : Takes X (fun cls d σ H => σ.length = X.N.length → W cls d σ H) := fun u s' ⟨a, B, sI, pins, σ, H, cls, d, e, I, nb, up, sky, na, os, ag, w⟩ => tk u s' ⟨a, B, sI, pins, σ, H, cls, d, e, I, nb, up, sky, na, os, ag, w I.len⟩
/-- the clause that takes the class tells the field F -/
def hits (K : PySem.W.Frag) (cls : Value) (F : Str) : List (List Value × Str) → Prop
  | [] => False
  | (cs, F') :: r => (PySem.W.exmAny K cls cs = some true ∧ F' = F) ∨ (PySem.W.exmAny K cls cs = some false ∧ hits K cls F r)
/-- the fields of an error of the class at C -/
structure XrK (K : PySem.W.Frag) (C : Addr) (F : Str) : Prop where
  xf : XfC K C
  tag : PySem.W.findIn K (.ref C) "tag" = some none
  fld : F ≠ "" → PySem.W.findIn K (.ref C) F = some none
def fldV (fs : List (Str × V)) (F : Str) (v : V) : Prop := if F = "" then v = .non else fs.lookup F = some v
/-- told = (e.tag, e.F) -/
def tsRef (K : PySem.W.Frag) (F : Str) : Addr → Value → Option Addr → TS := fun a cls d D σ H => ∃ C, cls = .ref C ∧ XrK K C F ∧ σ[(2 : Nat)]? = some (some (.ref a)) ∧ ∃ dd fs tv fv, d = some dd ∧ H dd = some (.xd fs) ∧ fs.lookup ("tag" : Str) = some tv ∧ fldV fs F fv ∧ ∀ p, H p = none → D.nx (σ.set 1 (some (.ref p))) (upd H p (.tup [tv, fv]))
inductive NmsS (sg : Scope) (mg : Str → Option Value) : List Expr → List Value → Prop
  | nil : NmsS sg mg [] []
  | cons {x : Str} {c : Value} {np : Pos} {es : List Expr} {cs : List Value} (hg : sg.names.lookup x = some .globalImplicit) (hm : mg x = some c) (hd : (x == ("__debug__" : Str)) = false) (r : NmsS sg mg es cs) : NmsS sg mg (.Name x np :: es) (c :: cs)
inductive TstS (sg : Scope) (mg : Str → Option Value) : Expr → List Value → Prop
  | one {x : Str} {c : Value} {np : Pos} (hg : sg.names.lookup x = some .globalImplicit) (hm : mg x = some c) (hd : (x == ("__debug__" : Str)) = false) : TstS sg mg (.Name x np) [c]
  | tup {es : List Expr} {cs : List Value} {k : Nat} {tp : Pos} (r : NmsS sg mg es cs) (h2 : 2 ≤ cs.length) (h5 : cs.length ≤ 5) : TstS sg mg (.Tuple es k tp) cs
inductive RefH (sg : Scope) (mg : Str → Option Value) (told en : Str) : List ExceptHandler → List (List Value × Str) → Prop
  | nil : RefH sg mg told en [] []
  | fld {t : Expr} {cs : List Value} {F : Str} {k : Nat} {q1 q2 q3 q4 q5 q6 q7 cpos : Pos} {hds : List ExceptHandler} {l : List (List Value × Str)} (ht : TstS sg mg t cs) (hF : F ≠ "") (r : RefH sg mg told en hds l) :
      RefH sg mg told en (.ExceptHandler (some t) (some en) [.Assign [.Name told q1] (.Tuple [.Attribute (.Name en q2) "tag" q3, .Attribute (.Name en q4) F q5] k q6) q7] cpos :: hds) ((cs, F) :: l)
  | non {t : Expr} {cs : List Value} {k j : Nat} {q1 q2 q3 q4 q6 q7 cpos : Pos} {hds : List ExceptHandler} {l : List (List Value × Str)} (ht : TstS sg mg t cs) (r : RefH sg mg told en hds l) :
      RefH sg mg told en (.ExceptHandler (some t) (some en) [.Assign [.Name told q1] (.Tuple [.Attribute (.Name en q2) "tag" q3, .Constant .none j q4] k q6) q7] cpos :: hds) ((cs, "") :: l)
theorem nmsS_ok {Z : Cx} {es : List Expr} {cs : List Value} (h : NmsS Z.env.scope Z.mg es cs) : NmsOk Z es cs := by
  induction h with
  | nil => exact .nil
  | cons hg hm hd r ih => exact .cons hg hm hd ih
theorem tstS_ok {Z : Cx} {t : Expr} {cs : List Value} (h : TstS Z.env.scope Z.mg t cs) : TestE Z t cs := by
  cases h with
  | one hg hm hd => exact test_one hg hm hd
  | tup r h2 h5 => exact test_tup (nmsS_ok r) h2 h5
theorem refH_ok {Z : Cx} {told en : Str} {hds : List ExceptHandler} {l : List (List Value × Str)} (hN : Z.N.Nodup) (h1 : Z.N[(1 : Nat)]? = some told) (h2 : Z.N[(2 : Nat)]? = some en) (l1 : Z.env.scope.names.lookup told = some .local) (l2 : Z.env.scope.names.lookup en = some .local)
    (d1 : (en == ("__debug__" : Str)) = false) (d2 : (en == ("__classdict__" : Str)) = false)
    (hsw : ∀ (pn : List (Addr × Obj)) (a : Addr) (v : Expr) (q : Pos) (n : Nat), (∃ es k q6, v = .Tuple es k q6) → swapsWith v (some (.Name told q)) n Z.env = pure false) (hab : ∀ (n : Str) (q2 : Pos), attributeBase (.Name en q2) n Z.env (eval (.Name en q2) Z.env) = eval (.Name en q2) Z.env)
    (h : RefH Z.env.scope Z.mg told en hds l) : ClsOk Z en hds (l.map fun p => (p.1, tsRef Z.K p.2)) := by
  induction h with
  | nil => exact .nil
  | fld ht hF r ih =>
    refine .cons (tstS_ok ht) (fun a oe cls d pn hz hf => ⟨fun pins s σ H D I h => ?_⟩) ih
    obtain ⟨C, rfl, hx, h0, dd, fs, tv, fv, rfl, e1, e2, e3, k⟩ := h
    unfold fldV at e3
    rw [if_neg hF] at e3
    have pv2 : ∀ q : Pos, PE (Z.suite a ((a, oe) :: pn)) (.Name en q) (tVar 2) := fun q => pe_var (i := 2) h2 (.inl l2) d1 d2
    exact (pss_one (ps_set (X := Z.suite a ((a, oe) :: pn)) (i := 1) hN h1 (.inl l1) (pe_tup (pa_cons (pe_xf hx.xf hx.tag hz hf (pv2 _) (hab _ _)) (pa_cons (pe_xf hx.xf (hx.fld hF) hz hf (pv2 _) (hab _ _)) pa_nil (by rfl)) (by rfl))) (hsw pn a _ _ _ ⟨_, _, _, rfl⟩) (.inr l1))).run pins s σ H D I
      ⟨.ref a, h0, rfl, rfl, dd, fs, tv, rfl, e1, e2, .ref a, h0, rfl, rfl, dd, fs, fv, rfl, e1, e3, by show 2 ≤ sizeLine; rw [sizeLine_eq]; decide, fun p np => k p np⟩
  | non ht r ih =>
    refine .cons (tstS_ok ht) (fun a oe cls d pn hz hf => ⟨fun pins s σ H D I h => ?_⟩) ih
    obtain ⟨C, rfl, hx, h0, dd, fs, tv, fv, rfl, e1, e2, e3, k⟩ := h
    unfold fldV at e3
    rw [if_pos rfl] at e3
    subst e3
    have pv2 : ∀ q : Pos, PE (Z.suite a ((a, oe) :: pn)) (.Name en q) (tVar 2) := fun q => pe_var (i := 2) h2 (.inl l2) d1 d2
    exact (pss_one (ps_set (X := Z.suite a ((a, oe) :: pn)) (i := 1) hN h1 (.inl l1) (pe_tup (pa_cons (pe_xf hx.xf hx.tag hz hf (pv2 _) (hab _ _)) (pa_cons pe_non pa_nil (by rfl)) (by rfl))) (hsw pn a _ _ _ ⟨_, _, _, rfl⟩) (.inr l1))).run pins s σ H D I
      ⟨.ref a, h0, rfl, rfl, dd, fs, tv, rfl, e1, e2, by show 2 ≤ sizeLine; rw [sizeLine_eq]; decide, fun p np => k p np⟩
/-- what the def makes of the call's reading -/
def TTref (K : PySem.W.Frag) (cl : List (List Value × Str)) : (XK → Hp → VK → Prop) → Hp → VK → Prop := fun tl H Q => ∀ p, H p = none → tl (fun cls d H' => ∃ F, hits K cls F cl ∧ ∃ C, cls = .ref C ∧ XrK K C F ∧ ∃ dd fs tv fv, d = some dd ∧ H' dd = some (.xd fs) ∧ fs.lookup ("tag" : Str) = some tv ∧ fldV fs F fv ∧
  ∀ p2, H' p2 = none → Q (.ref p2) (upd H' p2 (.tup [tv, fv]))) (upd H p (.tup [.str "", .non])) (fun _ H' => ∃ v, (some (some (V.ref p)) : Option (Option V)) = some (some v) ∧ Q v H')
theorem wcl_of {K : PySem.W.Frag} {D : Ends} {cls : Value} {d : Option Addr} {σ : L2.St} {H' : Hp} {F : Str} {C : Addr} (hc : cls = .ref C) (hx : XrK K C F) {dd : Addr} {fs : List (Str × V)} {tv fv : V} (h1 : d = some dd) (h2 : H' dd = some (.xd fs)) (h3 : fs.lookup ("tag" : Str) = some tv) (h4 : fldV fs F fv)
    (hl : σ.length = 3) (k : ∀ p, H' p = none → ∀ σ2 : L2.St, σ2.length = 3 → σ2[(1 : Nat)]? = some (some (.ref p)) → D.nx σ2 (upd H' p (.tup [tv, fv]))) : ∀ {cl : List (List Value × Str)}, hits K cls F cl → wClauses K 2 (fun _ _ _ _ => False) D (cl.map fun p => (p.1, tsRef K p.2)) cls d σ H'
  | [], h => h.elim
  | (cs, F') :: r, h => by
    rcases h with ⟨e1, rfl⟩ | ⟨e1, e2⟩
    · refine ⟨true, e1, fun _ a na => ⟨C, hc, hx, List.getElem?_set_self (by omega), dd, fs, tv, fv, h1, h2, h3, h4, fun p np => ?_⟩, fun z => by cases z⟩
      refine k p np _ (by simp [hl]) ?_
      rw [List.getElem?_set_ne (by decide)]
      exact List.getElem?_set_self (by simp [hl])
    · exact ⟨false, e1, (fun z => by cases z), fun _ => wcl_of hc hx h1 h2 h3 h4 hl k e2⟩
theorem ref_gives {X : Cx} {told en ask x q : Str} {sg : Scope} {g : Addr} {cdg : Value} {hd0 : ExceptHandler} {hds : List ExceptHandler} {cl : List (List Value × Str)} {j1 j2 k1 : Nat} {p1 p2 p3 p4 p5 p6 p7 p8 p9 p10 p11 : Pos} (hN : ([ask, told, en] : List Str).Nodup) (l1 : sg.names.lookup told = some .local) (l2 : sg.names.lookup en = some .local) (d0 : (told == ("__debug__" : Str)) = false) (d3 : (told == ("__classdict__" : Str)) = false)
    (d1 : (en == ("__debug__" : Str)) = false) (d2 : (en == ("__classdict__" : Str)) = false) (hr : RefH sg X.mg told en (hd0 :: hds) cl) :
    LamX.GivesTo X [ask, told, en] x sg g cdg [.Assign [.Name told p1] (.Tuple [.Constant (.str "") j1 p2, .Constant .none j2 p3] k1 p4) p5, .Try [.Expr (.Call (.Name ask p6) [] [] p7) p8] (hd0 :: hds) [] [] p9, .Return (some (.Name told p10)) p11] ask q (TTref X.K cl) := by
  intro f c' s H Q tl act hc h
  generalize hZ : (cxOf C8.CX0 X.prog X.w X.K X.mg X.base [ask, told, en] x sg g cdg X.A X.stack s H C8.E0).nox = Z
  have zK : Z.K = X.K := by rw [← hZ]; rfl
  have zN : Z.N = [ask, told, en] := by rw [← hZ]; rfl
  have zs : Z.env.scope = sg := by rw [← hZ]; rfl
  have zm : Z.mg = X.mg := by rw [← hZ]; rfl
  have hcls : ClsOk Z en (hd0 :: hds) (cl.map fun p => (p.1, tsRef Z.K p.2)) := by
    refine refH_ok (by rw [zN]; exact hN) (by rw [zN]; rfl) (by rw [zN]; rfl) (by rw [zs]; exact l1) (by rw [zs]; exact l2) d1 d2 (fun pn a v q n hv => ?_) (fun n q2 => ?_) (by rw [zs, zm]; exact hr)
    · obtain ⟨es, k, q6, rfl⟩ := hv; rfl
    · rfl
  rw [zK] at hcls
  refine ⟨_, pss_cons (ps_set (X := Z) (i := 1) (by rw [zN]; exact hN) (by rw [zN]; rfl) (.inl (by rw [zs]; exact l1)) (pe_tup (pa_cons pe_str (pa_cons pe_non pa_nil (by rfl)) (by rfl))) (by rfl) (.inr (by rw [zs]; exact l1)))
    (pss_cons (ps_tryAs (X := Z) (i := 2) (n := en) (Wout := fun _ _ _ _ => False) (l := cl.map fun p => (p.1, tsRef X.K p.2))
      (tb := fun W D σ H => ∃ Ech : XK, (∀ cls d σ' H', Ech cls d H' → σ'.length = 3 → W cls d σ' H') ∧ σ[(0 : Nat)]? = some (some (.ref f)) ∧ H c' = some (LamX.CodeO c' q) ∧ tl Ech H (fun _ H' => D.nx σ H'))
      (by rw [← hZ]; rfl) (by rw [← hZ]; rfl) (by rw [zN]; exact hN) (by rw [zN]; rfl) (by show Z.env.scope.names.lookup en = _; rw [zs]; exact l2) LamX.takes0 (fun W pn xe tk _ => ?_) hcls)
    (pss_one (ps_ret (pe_var (i := 1) (by rw [zN]; rfl) (.inl (by rw [zs]; exact l1)) d0 d3)))), ?_⟩
  · refine ⟨fun pins s' σ H' D I h' => ?_⟩
    obtain ⟨Ech, hW, h1, h2, h3⟩ := h'
    have tk' := Takes.len tk
    subst hZ
    have hp := act (fun cls d σ H => σ.length = 3 → W cls d σ H) pn xe Ech p6 p7 tk' (fun cls d σ' H' z hl => hW cls d σ' H' z hl)
    have hq := pss_one (ps_expr (pos := p8) hp (by rfl))
    exact hq.run pins s' σ H' D I ⟨h1, h2, h3⟩
  · refine ⟨by show 2 ≤ sizeLine; rw [sizeLine_eq]; decide, fun p np => ?_⟩
    have hc1 : upd H p (.tup [.str "", .non]) c' = some (LamX.CodeO c' q) := by rw [upd_ne (ne_of_none hc np)]; exact hc
    refine ⟨_, fun cls d σ' H' he hl => ?_, rfl, hc1, h p np⟩
    obtain ⟨F, hh, C, e1, hx, dd, fs, tv, fv, e2, e3, e4, e5, k⟩ := he
    rw [zK]
    refine wcl_of e1 hx e2 e3 e4 e5 hl (fun p2 np2 σ2 hl2 h1 => ?_) hh
    exact ⟨.ref p2, h1, k p2 np2⟩
end Y
namespace Y
open PySem PySem.Spec PyProof.Rows L2
/-! ### what a call that may raise tells -/
def refF (fs : List (Str × D)) (F : Str) : Option D := if F = "" then some .non else fs.lookup F
def refD (tbl : List (Str × Str)) : R D → R D
  | .ok _ w => .ok (.tup [.str "", .non]) w
  | .err c fs w => match tbl.lookup c with
    | some F => match fs.lookup ("tag" : Str), refF fs F with
      | some t, some v => .ok (.tup [t, v]) w
      | _, _ => .bad
    | none => .bad
  | .bad => .bad
def eRef (tbl : List (Str × Str)) (fb : EM) : EM := fun S w => refD tbl (fb S w)
theorem Ext.lamL {g : G} {F : FH} {H H1 : Hp} {w : Bx} (s : Same F H) (b : BxOk g F w H) (e : ExtL g.cls.tb H H1) : Ext g F H F H1 w := by
  have k : ∀ a o, (∀ ps, o ≠ .tbl ps) → H a = some o → H1 a = some o := fun a o n h => e.ext a o h n
  have kn : ∀ a, H a ≠ none → (∀ ps, H a ≠ some (.tbl ps)) → H1 a = H a := fun a n nt => by
    cases q : H a with
    | none => exact absurd q n
    | some o => exact k a o (fun ps z => nt ps (by rw [q, z])) q
  refine ⟨FSame.refl F, fun a o _ _ nt h => k a o nt h, e.dom, fun _ _ h => .inl h, fun _ _ h => .inl h, fun a o h => k a o (fun ps z => b.ntb a ps (by rw [h, z])) (s a o h), ?_, fun a od u h => k a _ (fun _ z => by cases z) h⟩
  refine ⟨?_, b.no, b.big0, b.mk0, b.mk1, b.nc, fun i c h => ?_, b.adl, b.inj, e.tabs, b.ntb⟩
  · obtain ⟨c, h1, h2⟩ := b.at_
    exact ⟨c, k _ _ (fun _ z => by cases z) h1, h2⟩
  · obtain ⟨a, h1, h2, h3, h4⟩ := b.cel i c h
    refine ⟨a, h1, h2, h3, h4.keep (FSame.refl F) ?_ fun x y q => k _ _ (fun _ z => by cases z) q⟩
    refine kn a h4.at_ fun ps z => ?_
    cases c with
    | lst ds => obtain ⟨vs, e1, _⟩ := h4; rw [e1] at z; cases z
    | dct ds => obtain ⟨vs, e1, _⟩ := h4; rw [e1] at z; cases z
    | obj c ds => obtain ⟨C, dx, vs, e1, _⟩ := h4; rw [e1] at z; cases z
    | lck ds => obtain ⟨vs, od, e1, _⟩ := h4; rw [e1] at z; cases z
/-- the def that tells an error, and the classes that it tells of -/
structure RefK (K : PySem.W.Frag) (mg : Str → Option Value) (cls : CT) (x : Str) (tbl : List (Str × Str)) : Prop where
  ex : ∃ (ga : Addr) (ask told en : Str) (pg : Arguments) (sg : Scope) (dV kV doc pm cdv ct oc : Value) (an od : Option Addr) (osl : Array (Option Value)) (hd0 : ExceptHandler) (hds : List ExceptHandler) (cl : List (List Value × Str)) (j1 j2 k1 : Nat) (p1 p2 p3 p4 p5 p6 p7 p8 p9 p10 p11 : Pos),
    mg x = some (.ref ga) ∧ PySem.W.keepIn K (.ref ga) = true ∧
    K.lookup ga = some ⟨oc, od, .func (PySem.W.fnOf x x pg [.Assign [.Name told p1] (.Tuple [.Constant (.str "") j1 p2, .Constant .none j2 p3] k1 p4) p5, .Try [.Expr (.Call (.Name ask p6) [] [] p7) p8] (hd0 :: hds) [] [] p9, .Return (some (.Name told p10)) p11] sg dV kV doc pm an cdv ct), osl⟩ ∧
    PySem.W.codeIn K cdv x = true ∧ L2.Binds K (PySem.W.fnOf x x pg [.Assign [.Name told p1] (.Tuple [.Constant (.str "") j1 p2, .Constant .none j2 p3] k1 p4) p5, .Try [.Expr (.Call (.Name ask p6) [] [] p7) p8] (hd0 :: hds) [] [] p9, .Return (some (.Name told p10)) p11] sg dV kV doc pm an cdv ct) [ask] [] ∧
    FnScope [ask, told, en] [ask] sg ∧ sg.names.lookup ask = some .local ∧ sg.names.lookup told = some .local ∧ sg.names.lookup en = some .local ∧ ([ask, told, en].all fun y => !(y == ("__debug__" : Str)) && !(y == ("__classdict__" : Str))) = true ∧ RefH sg mg told en (hd0 :: hds) cl ∧
    ∀ c F, tbl.lookup c = some F → ∃ C, cls c = some C ∧ XrK K C F ∧ hits K (.ref C) F cl
section
variable {X : Cx} {g : G} {E : EK} {x : Str} {tbl : List (Str × Str)}
end
end Y
namespace Y
open PySem PySem.Spec PyProof.Rows L2
/-! ### the end of a law whose defs make lambdas -/
/-- the table of a def that makes lambdas -/
def LamT (K : PySem.W.Frag) (mg : Str → Option Value) (base : Heap) (tb : List (Addr × Str)) (x ql : Str) : Prop := ∃ f c P, mg x = some (.ref f) ∧ (∀ cdv, CodeIs K f cdv → cdv = .ref c) ∧ LamX.TabB base mg c P ∧ (P, ql) ∈ tb ∧ ∀ q ∈ tb, q.1 = P → q.2 = ql
end Y
namespace Y
open PySem PySem.Spec PyProof.Rows L2
/-! ### tables of code objects, from the head's facts -/
theorem tab_code {K : PySem.W.Frag} {x : Str} {f c P : Addr} (h1 : PySem.W.nsIn K mainGlobals x = some (some (.ref f))) (h2 : PySem.W.tabIn K x = some (c, P)) : ∀ cdv, CodeIs K f cdv → cdv = .ref c := by
  rintro cdv ⟨oc, od, fd, osl, lk, rfl⟩
  unfold PySem.W.tabIn at h2
  rw [h1] at h2
  simp only [lk] at h2
  split at h2
  · rename_i c' e
    split at h2
    · split at h2
      · cases h2; exact e
      · cases h2
    · cases h2
  · cases h2
theorem lamT_mk {K : PySem.W.Frag} {mg : Str → Option Value} {base : Heap} {tb : List (Addr × Str)} {x ql : Str} {f c P : Addr} (hm : mg x = some (.ref f)) (h1 : PySem.W.nsIn K mainGlobals x = some (some (.ref f))) (h2 : PySem.W.tabIn K x = some (c, P)) (TB : LamX.TabB base mg c P) (hmem : (P, ql) ∈ tb) (hu : ∀ q ∈ tb, q.1 = P → q.2 = ql) : LamT K mg base tb x ql :=
  ⟨f, c, P, hm, tab_code h1 h2, TB, hmem, hu⟩
theorem tabs_start {tb : List (Addr × Str)} {H : Hp} (h : ∀ p ∈ tb, H p.1 = some (.tbl #[])) : LamX.Tabs tb H := fun p hp => ⟨#[], h p hp, trivial, fun pos cv hc => by cases hc⟩
end Y
namespace Y
theorem tbl_nil {Q : PySem.Str → PySem.Str → Prop} : ∀ c F, ([] : List (PySem.Str × PySem.Str)).lookup c = some F → Q c F := fun _ _ h => nomatch h
theorem tbl_cons {Q : PySem.Str → PySem.Str → Prop} {c0 F0 : PySem.Str} {r : List (PySem.Str × PySem.Str)} (h : Q c0 F0) (hr : ∀ c F, r.lookup c = some F → Q c F) : ∀ c F, ((c0, F0) :: r).lookup c = some F → Q c F := fun c F e => by
  rw [List.lookup_cons] at e
  split at e
  · rename_i q; cases e; rw [eq_of_beq q]; exact h
  · exact hr c F e
theorem all1 {α : Type} {Q : α → Prop} {a : α} (h : Q a) : ∀ p ∈ [a], Q p := fun p hp => by rcases List.mem_cons.mp hp with rfl | z; exact h; cases z
end Y
namespace Y
open PySem PySem.Spec PyProof.Rows L2
end Y
namespace Y
open PySem PySem.Spec PyProof.Rows L2
/-! ### isinstance of any value, and == of an object with a value of a built-in type -/
def six : List String := ["NoneType", "bool", "int", "str", "list", "tuple"]
structure IsGK (K : PySem.W.Frag) (mg : Str → Option Value) (cls : CT) (c : Str) (tb : List (Str × Bool)) : Prop where
  ex : ∃ C : Addr, mg c = some (.ref C) ∧ (∀ c' b, tb.lookup c' = some b → ∃ C', cls c' = some C' ∧ C8.InsC K C' ∧ PySem.W.kitOne K (.ref C') (.ref C) = some b) ∧ ∀ a ∈ six, PySem.W.kitOne K (.type a) (.ref C) = some false
def mIsG (tb : List (Str × Bool)) : D → Option D
  | .obj c _ => (tb.lookup c).map .bl
  | d => (tyN d).map fun _ => .bl false
section
variable {X : Cx} {g : G} {E : EK} {e a b : Expr} {pos p : Pos} {f fa fb : EM} {c : Str} {k : Nat} {mm : List D → Bx → R D} {tb : List (Str × Bool)}
theorem de_isG {p3 : Pos} (hK : g.K = X.K) (M : IsGK X.K X.mg g.cls c tb) (hm : X.mg "isinstance" = none) (ha : DE X g E e f) (hgN : Gl X c := by rfl) (hg : Gl X "isinstance" := by rfl) (hdN : (c == ("__debug__" : Str)) = false := by decide)
    (he : starEach [e, .Name c p3] X.env = (false, eval e X.env) :: starEach [.Name c p3] X.env := by rfl) (he2 : starEach [.Name c p3] X.env = (false, eval (.Name c p3) X.env) :: starEach [] X.env := by rfl) (hpl : (backTo pos (starEach [.Name c p3] X.env)).any (·.1) = false := by rfl) :
    DE X g E (.Call (.Name "isinstance" p) [e, .Name c p3] [] pos) (e1 (mIsG tb) f) := by
  obtain ⟨C, h1, h2, h3⟩ := M.ex
  obtain ⟨ta, pa, ra⟩ := ha.run
  refine ⟨_, pe_callB call_isi hg hm (by decide +kernel) (pa_cons pa (pa_cons (pe_glob hgN h1 (v := .ref C) rfl hdN) pa_nil he2) he) (by decide) (by decide) he hpl, fun σ H Q F S w R h => ?_⟩
  refine ra σ H _ F S w R (PostG.imp (PostG.bind h) fun d w1 _ h1 v H1 F1 x1 r1 => ?_)
  obtain ⟨z, hz, q⟩ := post_ofO h1
  by_cases hd : ∃ c' fs, d = .obj c' fs
  · obtain ⟨c', fs, rfl⟩ := hd
    obtain ⟨b, e1, rfl⟩ := Option.map_eq_some_iff.mp hz
    obtain ⟨C', k1, k2, k3⟩ := h2 c' b e1
    cases r1 with
    | @obj a1 C1 dx _ fs' _ q1 q2 q3 q4 =>
      rw [k1] at q3; cases q3
      exact ⟨.ref a1, .ref C, .ref C', .ref C, _, rfl, .own C, .base (.ins (x1.sub _ _ q1) k2.cl k2.ha k2.hn k2.htk k2.hm), k3, q _ H1 F1 x1 (.bl _)⟩
  · have hz' : (tyN d).map (fun _ => D.bl false) = some z := by
      cases d <;> first | exact hz | exact absurd ⟨_, _, rfl⟩ hd
    obtain ⟨a, e1, e2⟩ := Option.map_eq_some_iff.mp hz'
    subst e2
    rw [← hK]
    exact ⟨v, .ref C, .type a, .ref C, _, rfl, .own C, ty_of x1.sub r1 e1, by rw [hK]; exact h3 a (tyN_mem e1), q _ H1 F1 x1 (.bl _)⟩
/-! == with a value of a built-in type -/
def rOwnB (K : PySem.W.Frag) (C : Addr) (sp : Sp) (E : XK) : R2 := fun x y H Q => ∃ a dx fs t, x = .ref a ∧ H a = some (.ins C dx fs) ∧ TyX K H y (.type t) ∧ PySem.W.subIn K (.type t) (.ref C) = some false ∧ sp [x, y] H Q E
theorem op_ownEqB {E : XK} {C f : Addr} {sp : Sp} (F : FnR X.prog X.w X.K X.mg X.base (L2N.CX X.prog X.w) k f sp) (hr : Room k X.A) (hx : Passes (L2N.CX X.prog X.w) X E) (hs : PySem.W.findIn X.K (.ref C) "__eq__" = some (some (.ref f))) (hf : PySem.W.isFn X.K (.ref f) = true) :
    OpR X (compareOp .Eq) (rOwnB X.K C sp E) := by
  intro pins s σ H x y u v Q I rx ry h
  obtain ⟨a, dx, fs, t, rfl, ha, ht, hn, q⟩ := h
  cases rx
  obtain ⟨mA, J, _⟩ := ins_get I.hok ha
  obtain ⟨od, J, _⟩ := J.look
  obtain ⟨m, hF⟩ := I.fr
  obtain ⟨P, Z, p, hx'⟩ := kit_of I ry ht
  show wpAny (model X.prog X.w) X.A (richCompare .Eq (.ref a) v) (EP X pins σ Q) X.xe s
  refine PySem.W.cmp_K (op := .Eq) (tb := .type t) hr.units0 hF I.ok.mod.kin J (Z.ty _ _ I.kIn p) (by unfold PySem.W.notFirst; rw [hn]; simp) hs hf ?_
  refine wpAny_mono (wpAny_call (run_fnR (vs := [V.ref a, y]) F hr hx I (.cons rfl (.cons ry .nil)) q)) (fun r s' hq => ?_) fun _ _ z => z
  obtain ⟨z, H', I', rz, qz⟩ := hq
  have key : EP X pins σ Q r s' := ⟨z, H', I', rz, qz⟩
  cases r with
  | notImplemented => cases z <;> first | (obtain ⟨t, e⟩ := rz; cases e) | cases rz
  | _ => exact key
def isTy (d : D) : Bool := (tyN d).isSome
def eOwnB (c : Str) (mm : List D → Bx → R D) (fa fb : EM) : EM := fun S w => (fa S w).bind fun d w1 => (fb S w1).bind fun e w2 => if isCls c d && isTy e then mm [d, e] w2 else .bad
/-- no value of a built-in type is one of the class -/
structure NoK (K : PySem.W.Frag) (cls : CT) (c : Str) : Prop where
  ex : ∃ C, cls c = some C ∧ ∀ a ∈ six, PySem.W.subIn K (.type a) (.ref C) = some false
theorem de_ownEqB {E : XK} (hK : g.K = X.K) (M : OpK X.prog X.w X.K X.mg X.base g.cls c "__eq__" k mm) (M2 : NoK X.K g.cls c) (hr : Room k X.A) (hx : Passes (L2N.CX X.prog X.w) X E) (ha : DE X g (kE E) a fa) (hb : DE X g (kE E) b fb) (hk : behindInMarks .Eq b = false := by first | exact nomark _ | rfl) : DE X g (kE E) (.Compare a [.Eq] [b] pos) (eOwnB c mm fa fb) := by
  obtain ⟨C, f, fd, ps, hc, sf, fi, hf, F, bi⟩ := M.ex
  obtain ⟨C2, k1, k2⟩ := M2.ex
  rw [hc] at k1; cases k1
  obtain ⟨ta, pa, ra⟩ := ha.run
  obtain ⟨tb, pb, rb⟩ := hb.run
  refine ⟨_, pe_cmpR (op_ownEqB (raw_spM (g := g) F bi) hr hx fi hf) pa pb hk, fun σ H Q F S w R h => ?_⟩
  refine ra σ H _ F S w R (PostG.imp (PostG.bind h) fun d w1 hd h1 v H1 F1 x1 r1 => ?_)
  refine rb σ H1 _ F1 S w1 (R.ext x1) (PostG.ext x1 (PostG.bind h1) fun e w2 h2 u H2 F2 x2 r2 => ?_)
  have x12 := x1.trans x2
  by_cases hd : (isCls c d && isTy e) = true
  · rw [if_pos hd] at h2
    rw [Bool.and_eq_true] at hd
    have r1' := r1.mono x2.ff
    obtain ⟨q, C', dx, vs, ev, hc', hq⟩ := r1'.isCls hd.1
    obtain rfl : C' = C := Option.some.inj (hc'.symm.trans hc)
    obtain ⟨t, ht⟩ := Option.isSome_iff_exists.mp hd.2
    have hty : TyX X.K H2 u (.type t) := by rw [← hK]; exact ty_of x2.sub r2 ht
    refine ⟨q, dx, vs, t, ev, x2.sub _ _ hq, hty, k2 t (tyN_mem ht), ?_⟩
    rw [← hK]
    exact ⟨rfl, g.bq, F2, [d, e], w2, x2.sub, x2.bx, .cons r1' (.cons r2 .nil), Post.of x12 h2⟩
  · rw [if_neg hd] at h2; exact h2.elim
end
theorem all6 {Q : String → Prop} (a1 : Q "NoneType") (a2 : Q "bool") (a3 : Q "int") (a4 : Q "str") (a5 : Q "list") (a6 : Q "tuple") : ∀ a ∈ six, Q a := by
  intro a h
  unfold six at h
  simp at h
  rcases h with rfl | rfl | rfl | rfl | rfl | rfl
  · exact a1
  · exact a2
  · exact a3
  · exact a4
  · exact a5
  · exact a6
theorem tbB_nil {Q : Str → Bool → Prop} : ∀ c F, ([] : List (Str × Bool)).lookup c = some F → Q c F := fun _ _ h => nomatch h
theorem tbB_cons {Q : Str → Bool → Prop} {c0 : Str} {F0 : Bool} {r : List (Str × Bool)} (h : Q c0 F0) (hr : ∀ c F, r.lookup c = some F → Q c F) : ∀ c F, ((c0, F0) :: r).lookup c = some F → Q c F := fun c F e => by
  rw [List.lookup_cons] at e
  split at e
  · rename_i q; cases e; rw [eq_of_beq q]; exact h
  · exact hr c F e
end Y
namespace Y
open PySem PySem.Spec PyProof.Rows L2
/-! ### a list comprehension of two clauses -/
section
variable {X : Cx} {g : G} {E : EK} {pos : Pos}
end
end Y
namespace Y
open PySem PySem.Spec PyProof.Rows L2
/-! ### (i, s) < (j, t) -/
section
variable {X : Cx}
end
end Y
namespace Y
open PySem PySem.Spec PyProof.Rows L2
/-! ### try: .. except X: return b -/
section
variable {X : Cx} {g : G} {E : EK} {F0 : FH} {H0 : Hp} {x : Str} {cs : List Str} {b : Bool} {body : List Stmt} {mb : SM} {np pos pos' p1 p2 : Pos} {k1 : Nat}
end
end Y
/-! ### the head, run once in the kernel and seen by a Hook of one's own -/
namespace Y
open PySem PySem.Spec PyProof.Rows L2
section
variable {T : Tell} {w : World} {h : Heap} {K : Fr}
theorem Says.q (S : Says T w h K) (i : Nat) {q : Qy} (e : T.chk[i]? = some q := by rfl) : q.l K = q.r K := Qy.says (S.ck q (List.mem_of_getElem? e))
theorem fn_get {x : FnA} (hx : x.dfl = false) (e1 : seeF K (x.ad K) = x.due) (e2 : FnA.ok K x = true) : ∃ oc od cl kV doc pm an cdv ct sl, K.lookup (x.ad K) = some ⟨oc, od, .func (PySem.W.fnX x.nam x.qua (defArgs x.st) (defBody x.st) (defScope x.st) cl .none kV doc pm an cdv ct), sl⟩ ∧ cl.map Prod.fst = x.clo ∧ PySem.W.codeIn K cdv x.qua = true ∧ PySem.W.keepIn K (.ref (x.ad K)) = true := by
  unfold FnA.ok at e2
  unfold seeF at e1
  cases q : K.lookup (x.ad K) with
  | none => rw [q] at e2; cases e2
  | some o =>
    obtain ⟨oc, od, dt, osl⟩ := o
    rw [q] at e1 e2
    cases dt with
    | func fd =>
      obtain ⟨n1, n2, n3, n4, n5, n6, n7, n8, n9, n10, n11, n12, n13, n14, n15⟩ := fd
      obtain ⟨c1, c2⟩ := He.ba e2
      obtain ⟨c3, c4⟩ := He.ba c2
      have e3 := Option.some.inj e1
      simp only [FnA.due, Option.some.injEq, Prod.mk.injEq] at e1
      obtain ⟨⟨h1, h2⟩, ⟨h3, h4, h5⟩, ⟨h6, h7⟩, h8⟩ := e1
      rw [hx, Bool.false_or] at c3
      have h9 : n8 = .none := of_decide_eq_true c3
      subst h1 h2 h3 h4 h5 h6 h7 h9
      exact ⟨oc, od, n7, n9, n10, n11, n12, n13, n14, osl, rfl, h8, c1, c4⟩
    | _ => cases e2
theorem Says.fnX (S : Says T w h K) (i : Nat) {x : FnA} (e : T.fns[i]? = some x) (hx : x.dfl = false) : ∃ oc od cl kV doc pm an cdv ct sl, K.lookup (x.ad K) = some ⟨oc, od, .func (PySem.W.fnX x.nam x.qua (defArgs x.st) (defBody x.st) (defScope x.st) cl .none kV doc pm an cdv ct), sl⟩ ∧ cl.map Prod.fst = x.clo ∧ PySem.W.codeIn K cdv x.qua = true ∧ PySem.W.keepIn K (.ref (x.ad K)) = true := by
  have e2 : (T.fns.map fun x => seeF K (x.ad K))[i]? = (T.fns.map FnA.due)[i]? := by rw [S.fn]
  rw [List.getElem?_map, List.getElem?_map, e] at e2
  exact fn_get hx (Option.some.inj e2) (S.fo x (List.mem_of_getElem? e))
/-- a def or a method without a closure -/
theorem Says.f (S : Says T w h K) (i : Nat) {x : FnA} (e : T.fns[i]? = some x := by rfl) (hc : x.clo = [] := by rfl) (hx : x.dfl = false := by rfl) : ∃ fd, Fun K x.nam x.qua x.st (x.ad K) fd := by
  obtain ⟨oc, od, cl, kV, doc, pm, an, cdv, ct, sl, lk, h1, h2, h3⟩ := S.fnX i e hx
  rw [hc] at h1
  have : cl = [] := List.map_eq_nil_iff.mp h1
  subst this
  exact ⟨_, ⟨oc, od, kV, doc, pm, an, cdv, ct, sl, rfl, lk, h2⟩, h3⟩
/-! a method that looks at its class -/
/-! places by names -/
theorem isVal_ok {C : Addr} {m : Str} {i : Int} (e : isVal K C m i = true) : ∃ t, PySem.W.findCls K (.ref C) (.type "type") m = some (.val (.int i t)) := by
  unfold isVal at e
  split at e
  · rename_i j t hq; rw [hq, of_decide_eq_true e]; exact ⟨t, rfl⟩
  · cases e
/-! the module's constants -/
theorem glb_tupB {X : K.In h} {mg : Str → Option Value} (G : h.Ns mainGlobals mg) {x : Str} {vs : List He.Dv} {ds : List D} (hm : PySem.W.nsIn K mainGlobals x = some (some (.ref (He.ga K x)))) (e : He.tupB K x vs = true) (hd : ∀ (g : Y.G) (F : FH), DRs g F (vs.map (He.Dv.v K)) ds) : Glb K mg x (.tup ds) :=
  ⟨.ref (He.ga K x), _, PySem.W.mg_of X G hm, rfl, fun g F hg => .tup (by rw [hg]; exact He.tupB_ok e F) (hd g F)⟩
/-! classes of errors -/
/-! tables of code objects -/
theorem Says.lamt (S : Says T w h K) (i : Nat) {x : Str} (e : T.lam[i]? = some x) : PySem.W.tabIn K x = some (lamC K x, lamP K x) ∧ PySem.W.codeHdIn K (lamC K x) (lamP K x) = true ∧ K.lookup (lamP K x) = none ∧ h.get? (lamP K x) = some { cls := .none, data := .fields #[] } := by
  obtain ⟨c, P, h1, h2, h3, h4⟩ := S.lm x (List.mem_of_getElem? e)
  have e1 : lamC K x = c := by unfold lamC; rw [h1]
  have e2 : lamP K x = P := by unfold lamP; rw [h1]
  rw [e1, e2]
  exact ⟨h1, h2, h3, h4⟩
theorem fun_one {x q : Str} {st : Stmt} {f : Addr} {fd fd2 : FuncData} (F : Fun K x q st f fd) (F2 : Fun K x q st f fd2) : fd = fd2 := by
  obtain ⟨_, _, _, _, _, _, _, _, _, _, l1, _⟩ := F.ex
  obtain ⟨_, _, _, _, _, _, _, _, _, _, l2, _⟩ := F2.ex
  rw [l1] at l2
  cases l2
  rfl
theorem name_eq {mg : Str → Option Value} {x y : Str} {v : Value} (e : x = y) (hm : mg x = some v) : mg y = some v := e ▸ hm
end
end Y
/-! ### a comprehension whose element looks back at the frame that it stands in -/
namespace Y
open PySem PySem.Spec PyProof.Rows L2
section
variable {X : Cx}
/-- [elt for tg in iter], where the element's reading may lean on the def's own state at the block's entry -/
theorem pe_lcI {elt tg iter : Expr} {scope : Scope} {own : List (Str × Nat)} {pos : Pos} {wi : TI} {g : TG} {te : L2.St → TE} (hcalm : X.calm = true) (hnd : X.N.Nodup) (hit : PI X tg iter wi) (bok : BlkOk X.N X.env.scope scope own)
    (hg : ∀ (s : Shared) (H : Hp) (C : Addr) (cl : List (Str × Addr)) (fp : List Addr), PG (X.blk s H scope (compEnvC scope cl C X.env) fp) tg g)
    (he : ∀ (pins : List (Addr × Obj)) (σ : L2.St) (s : Shared) (H : Hp) (C : Addr) (cl : List (Str × Addr)) (fp : List Addr), Inv X pins σ H s → (∀ b ∈ fp, FpOk X pins H b) → PE (X.blk s H scope (compEnvC scope cl C X.env) fp) elt (te σ))
    (hfold : ∀ x, foldedSetIterable iter X.env x = pure x := by intro _; rfl) : PE X (.ListComp elt [⟨tg, iter, [], 0⟩] scope pos) (fun σ H Q => tLc wi g tYes (te σ) (own.map (·.2)) σ H Q) := by
  refine ⟨fun pins s σ H Q I hread => ?_⟩
  rw [eval_ListComp]
  have hcells : ∀ y ∈ scope.names, y.2 = .free → ∃ c, X.env.cells.lookup y.1 = some c := fun y hy e => (bok.free y hy e).elim (fun k => I.ok.has _ (.inl k)) fun k => I.ok.has _ (.inr k)
  refine wpAny_comprehension_free rfl hfold (closure_ok hcells) bok.kind (fun y hy e => by rw [bok.uniq y hy, e]) (thn (hit.run pins s σ H _ I hread) fun _ _ hx => thn hx fun _ s2 ⟨it, fp, tn, J, H2, e, I2, T, st2, f2, q⟩ => ?_)
  subst e
  refine wpAny_newObj_type (newEnv_comp ?_) (by show 0 ≤ sizeLine; decide)
  -- the list that is filled
  obtain ⟨D, hD⟩ : ∃ D, s2.heap.objs.size = D := ⟨_, rfl⟩
  rw [hD]
  obtain ⟨W, ⟨m0, w0⟩, turn⟩ := q D (I2.hok.fresh (Nat.le_of_eq hD))
  obtain ⟨s3, hs3⟩ : ∃ s3 : Shared, ({ s2 with heap := s2.heap.push { cls := .type "list", data := .seq ([] : List Value).toArray } } : Shared) = s3 := ⟨_, rfl⟩
  obtain ⟨H3, hH3⟩ : ∃ H3 : Hp, upd H2 D (.lst []) = H3 := ⟨_, rfl⟩
  have hp3 : s3.heap = s2.heap.push { cls := .type "list", data := .seq ([] : List Value).toArray } := by rw [← hs3]
  have I3 : Inv X pins σ H3 s3 := by
    rw [← hH3, ← hs3]
    exact I2.laid (t' := s2.toks) (fun b o z => Heap.get?_push_of_some _ z) (Nat.le_of_eq hD) ⟨Nat.zero_le _, [], 0, .nil, by rw [← hD]; exact Heap.get?_push_size _ rfl⟩
  have small : ∀ b ∈ fp, b < s2.heap.objs.size := fun b hb => let ⟨_, z, _⟩ := T.obj _ _ st2 b hb; Heap.lt_size z
  have f3 : ∀ b ∈ fp, FpOk X pins H3 b ∧ b < s3.heap.objs.size := fun b hb => by
    have lt := small b hb
    refine ⟨⟨?_, (f2 b hb).2⟩, by rw [hp3, Heap.size_push]; exact Nat.lt_succ_of_lt lt⟩
    rw [← hH3, upd_ne (show b ≠ D from Nat.ne_of_lt (hD ▸ lt))]
    exact (f2 b hb).1
  have st3 : tn 0 s3.heap := T.keep _ _ _ st2 fun b _ o z => by rw [hp3]; exact Heap.get?_push_of_some _ z
  have I4 := block_start I3 bok hnd f3
  rw [hs3]
  rw [hH3] at w0
  obtain ⟨ce, hce⟩ : ∃ ce, compEnvC scope (cellsFrom (s3.heap.objs.size + 1) scope.names (cloFrom X.env.cells scope.names [])) s3.heap.objs.size X.env = ce := ⟨_, rfl⟩
  have pg := hg s3 H3 s3.heap.objs.size (cellsFrom (s3.heap.objs.size + 1) scope.names (cloFrom X.env.cells scope.names [])) fp
  have pe := he pins σ s3 H3 s3.heap.objs.size (cellsFrom (s3.heap.objs.size + 1) scope.names (cloFrom X.env.cells scope.names [])) fp I3 fun b hb => (f3 b hb).1
  have nfp : ∀ b ∈ fp, H3 b = none := fun b hb => (f3 b hb).1.1
  have cL : ce.locals = s3.heap.objs.size := by subst hce; rfl
  rw [hce] at I4 pg pe
  obtain ⟨s4, hs4⟩ : ∃ s4 : Shared, ({ s3 with heap := pushCells (s3.heap.push { cls := .type "dict", data := .dict #[] }) scope.names } : Shared) = s4 := ⟨_, rfl⟩
  rw [hs4] at I4
  have st4 : tn 0 s4.heap := T.keep _ _ _ st3 fun b _ o z => by rw [← hs4]; exact pushCells_keeps _ _ _ _ (Heap.get?_push_of_some _ z)
  have walk : ∀ {σ' : L2.St} {H' : Hp} {s' : Shared}, Inv (X.blk s3 H3 scope ce fp) [] σ' H' s' → (∀ b ∈ fp, H' b = none) → ∀ b ∈ fp, FpOk (X.blk s3 H3 scope ce fp) [] H' b := fun {σ' H' s'} I' hn b hb =>
    ⟨hn b hb, (I'.ok.exf b hb).1, I'.ok.exfs b hb, .inl hb, fun x c z => (I'.ok.exf b hb).2 x c z, fun p hp => by cases (show p ∈ ([] : List (Addr × Obj)) from hp)⟩
  have loop : codeAny (model X.prog X.w) X.A (.compLoop (.ListComp elt [⟨tg, iter, [], 0⟩] scope pos) 0 (.ref it) (.ref D) ce) (compPost (model X.prog X.w) X.A X.xe none (fun v s' => ∃ (y : V) (H' : Hp), Inv X pins σ H' s' ∧ RelV y v ∧ Q y H') (.ref D) s3.heap.objs.size) s4 := by
    refine compLoop_any (fun n s' => ∃ i H', Inv (X.blk s3 H3 scope ce fp) [] (wipe σ (own.map (·.2))) H' s' ∧ tn i s'.heap ∧ (∀ b ∈ fp, H' b = none) ∧ W i n H') ?_ m0 ⟨0, H3, I4, st4, nfp, w0⟩
    rintro n s5 ⟨i, H5, I5, st5, n5, w5⟩
    rcases turn i n H5 w5 with ⟨stop, qq⟩ | ⟨go, Nx, hNx, step⟩
    · refine thnF (T.done (X.blk s3 H3 scope ce fp) rfl rfl rfl hcalm i [] s5 _ H5 (fun _ _ => False) I5 (walk I5 n5) st5 stop) fun r s6 ⟨hr, I6⟩ => ?_
      subst hr
      have I7 : Inv X pins σ H5 s6 := I3.call' (ch := fp) I6.os I6.base I6.hok I6.bare fun b hb => ⟨(f3 b hb).1.2.2.2.1, (f3 b hb).1.2.1, (f3 b hb).1.2.2.2.2.1, (f3 b hb).1.2.2.2.2.2⟩
      have nC : H5 s3.heap.objs.size = none := by have z : H5 ce.locals = none := I6.free; rw [cL] at z; exact z
      obtain ⟨m, hn, _⟩ := I6.loc
      have hn : s6.heap.Ns ce.locals m := hn
      rw [cL] at hn
      obtain ⟨f0, f1, f2', f3', f4, f5⟩ := I3.fpOk (Nat.le_refl _) nC
      refine ⟨m, hn, fun h'' sb => ?_⟩
      exact ⟨.ref D, H5, I7.turned (t' := s6.toks) (fun b o hb z => (sb.2 b hb).trans z) f0 f1 f3' f4 f5, rfl, qq⟩
    · refine thnF (T.item (X.blk s3 H3 scope ce fp) rfl rfl rfl hcalm i [] s5 _ H5 (fun _ _ => False) I5 (walk I5 n5) st5 go) fun r s6 ⟨u, hr, h6⟩ => ?_
      subst hr
      refine thnF h6 fun _ s7 ⟨x, H7, I7, r7, y7, st7, n7⟩ => ?_
      refine thnF (pg.run _ s7 _ H7 x u _ (I7.pinned (walk I7 n7) (T.obj _ _ st7)) r7 (step x H7 y7)) fun _ s8 ⟨σ8, H8, I8, hw8, q8⟩ => ?_
      refine thnF ((pts_nil (X := X.blk s3 H3 scope ce fp)).run _ s8 σ8 H8 _ I8 q8) fun b s9 ⟨H9, I9, q9⟩ => ?_
      have fin : ∀ {s' : Shared} {H' : Hp}, Inv (X.blk s3 H3 scope ce fp) ([] ++ pinsAt fp s7.heap) σ8 H' s' → Nx H' → ∃ m, m < n ∧ ∃ i H', Inv (X.blk s3 H3 scope ce fp) [] (wipe σ (own.map (·.2))) H' s' ∧ tn i s'.heap ∧ (∀ b ∈ fp, H' b = none) ∧ W i m H' := fun {s' H'} I' nx => by
        obtain ⟨m', hm, w'⟩ := hNx H' nx
        have held : ∀ b ∈ fp, ∀ o, s7.heap.get? b = some o → s'.heap.get? b = some o ∧ H' b = none := fun b hb o z =>
          let y := I'.pin (b, o) (List.mem_append_right _ (List.mem_append_right _ (mem_pinsAt hb z)))
          ⟨y.1, y.2.1⟩
        refine ⟨m', hm, i + 1, H', (I'.unpinned (pins := [])).weak (by rw [← hw8, wipe_length]) (fun j v z => by rw [← hw8] at z; exact (wipe_some z).1), T.keep _ _ _ st7 fun b hb o z => (held b hb o z).1, fun b hb => ?_, w'⟩
        obtain ⟨o, z, _⟩ := T.obj _ _ st7 b hb
        exact (held b hb o z).2
      cases b with
      | false => simp only [Bool.false_eq_true, if_false] at q9 ⊢; exact fin I9 q9
      | true =>
        simp only [if_true] at q9 ⊢
        exact thnF (pe.run _ s9 σ8 H9 _ I9 q9) fun z s10 ⟨yv, H10, I10, r10, acc, hD10, hz10, nx⟩ => app_ok (X := X.blk s3 H3 scope ce fp) I10 hD10 hz10 r10 fun s11 I11 => fin I11 nx
  have start := codeAny_compStart_list loop (T.self X.A 0 _ _ _ st4 loop)
  rw [← hce, ← hs4] at start
  exact start
end
end Y
/-! ### lambdas that are kept -/
namespace Y
open PySem PySem.Spec PyProof.Rows L2
section
variable {X : Cx} {pins : List (Addr × Obj)} {σ : L2.St} {H : Hp} {s : Shared}
theorem lamF_new {P : Program} {w : World} {H : Hp} {h : Heap} {cl : List (Str × Addr)} {c' : Addr} {dV doc pm ctv : Value} {l : LamI} : ObjOk P w (upd H h.objs.size (LamF cl h.objs.size c' dV l)) (h.push (PySem.W.kdv_obj "<lambda>" l.q l.ps (.expr l.bd) l.sc (cloFrom cl l.sc.names []) dV doc pm c' ctv)) h.objs.size (LamF cl h.objs.size c' dV l) :=
  ⟨⟨doc, pm, ctv, Heap.get?_push_size _ rfl⟩, ⟨_, Heap.get?_push_size _ rfl⟩, fun h1 h2 ⟨d, p, c, e⟩ st => ⟨d, p, c, st _ e⟩⟩
theorem lamF_ne {cl : List (Str × Addr)} {f c' : Addr} {dV : Value} {l : LamI} (ps : Array Value) : LamF cl f c' dV l ≠ .tbl ps := fun z => by unfold LamF at z; cases z
/-- the function object is made, its defaults are dV -/
theorem lam_tail {T : List (Addr × Str)} {c P : Addr} {dV : Value} {l : LamI} {pos : Pos} {line : Nat} {E : Value → Shared → Prop} {Q : Value → Shared → Prop} (I : Inv X pins σ H s) (TB : LamX.TabB X.base X.mg c P) (hcode : X.env.code = .ref c) (hm : (P, l.q) ∈ T)
    (hu : ∀ p ∈ T, p.1 = P → p.2 = l.q) (hT : LamX.Tabs T H) (hfree : ∀ y ∈ l.sc.names, y.2 = .free → ∃ c, X.env.cells.lookup y.1 = some c)
    (h : ∀ (f c' : Addr) (H1 : Hp) (s' : Shared), Inv X pins σ H1 s' → ExtL T H H1 → H f = none → H1 f = some (LamF X.env.cells f c' dV l) → H1 c' = some (LamX.CodeO c' l.q) → Q (.ref f) s') :
    wpAny (model X.prog X.w) X.A (makeTail "<lambda>" l.q l.ps (.expr l.bd) l.sc X.env dV .none none pos line) Q E s := by
  obtain ⟨tab, tabH, tabOk, tabC⟩ := hT _ hm
  have bP : s.heap.BuiltinsAt X.mg P := TB.bm.keeps I.bk
  have tabS : s.heap.get? P = some { cls := .none, data := .fields tab } := I.hok P _ tabH
  cases hc : codeAmong pos tab.toList with
  | some cv =>
    obtain ⟨c', rfl, hco⟩ := tabC pos cv hc
    refine PySem.W.kdv_makeTailHit (mg := X.mg) (c := c) (P := P) (ps := tab) (closure_ok hfree) I.ok.glob (I.mod.glob.keeps I.bk) hcode (TB.code.keeps I.bk) tabS tabOk hc bP fun ctv doc h' tk hx hsz => ?_
    have nf : H h'.objs.size = none := I.hok.fresh hsz
    have ex : ∀ b o, H b = some o → upd H h'.objs.size (LamF X.env.cells h'.objs.size c' dV l) b = some o := fun b o e => by rw [upd_ne (ne_of_none e nf)]; exact e
    exact h h'.objs.size c' _ _ (I.laid (t' := tk) (fun b o e => Heap.get?_push_of_some _ (hx b o e)) hsz lamF_new) ⟨LamX.ExtN.of ex, fun b z => NdefX.upd_none z, hT.ext ex⟩ nf upd_same (ex _ _ hco)
  | none =>
    refine PySem.W.kdv_makeTail (mg := X.mg) (c := c) (P := P) (ps := tab) (closure_ok hfree) I.ok.glob (I.mod.glob.keeps I.bk) hcode (TB.code.keeps I.bk) tabS tabOk hc TB.gP bP fun c' ctv doc h' tk hx hge hlt hrec htb => ?_
    obtain ⟨c2, oc, us, t, e2, k1, k2, k3⟩ := hrec
    cases e2
    have big : s.heap.objs.size ≤ h'.objs.size := Nat.le_trans hge (Nat.le_of_lt hlt)
    have nC : H c' = none := I.hok.fresh hge
    have lst : (tab ++ #[rawInt pos.line, rawInt pos.col, .ref c']).toList = tab.toList ++ [rawInt pos.line, rawInt pos.col, .ref c'] := by simp
    have J := LamX.inv_table (q := l.q) (t' := tk) (more := #[rawInt pos.line, rawInt pos.col, .ref c']) (h' := h') I tabH (fun b o hb e => hx b o hb e) htb hge ⟨oc, us, t, k1, k2, k3⟩
    generalize hH2 : upd (upd H P (.tbl (tab ++ #[rawInt pos.line, rawInt pos.col, .ref c']))) c' (LamX.CodeO c' l.q) = H2 at J
    have ex0 : LamX.ExtN H H2 := fun b o e n => by
      have b1 : b ≠ c' := ne_of_none e nC
      have b2 : b ≠ P := fun z => n tab (Option.some.inj (e.symm.trans (by rw [z]; exact tabH)))
      rw [← hH2, upd_ne b1, upd_ne b2]; exact e
    have tb2 : LamX.Tabs T H2 := fun p hp => by
      by_cases hb : p.1 = P
      · rw [hu p hp hb, hb]
        refine ⟨_, by rw [← hH2, upd_ne (ne_of_none tabH nC), upd_same], by rw [lst]; exact PySem.TriplesOk_snoc _ _ _ _ tabOk, fun p' cv hcv => ?_⟩
        rw [lst] at hcv
        rcases LamX.among_app _ tabOk hcv with z | z
        · obtain ⟨c0, e1, e2⟩ := tabC p' cv z
          exact ⟨c0, e1, ex0 _ _ e2 LamX.codeO_ne⟩
        · exact ⟨c', z, by rw [← hH2]; exact upd_same⟩
      · obtain ⟨tab2, a1, a2, a3⟩ := hT p hp
        refine ⟨tab2, by rw [← hH2, upd_ne (ne_of_none a1 nC), upd_ne hb]; exact a1, a2, fun p' cv hcv => ?_⟩
        obtain ⟨c0, e1, e2⟩ := a3 p' cv hcv
        exact ⟨c0, e1, ex0 _ _ e2 LamX.codeO_ne⟩
    have dom0 : ∀ b, H2 b = none → H b = none := fun b z => by rw [← hH2] at z; exact NdefX.upd_none (NdefX.upd_none z)
    have cC : H2 c' = some (LamX.CodeO c' l.q) := by rw [← hH2]; exact upd_same
    have nf : H2 h'.objs.size = none := J.hok.fresh (Nat.le_refl _)
    have ex : ∀ b o, H2 b = some o → upd H2 h'.objs.size (LamF X.env.cells h'.objs.size c' dV l) b = some o := fun b o e => by rw [upd_ne (ne_of_none e nf)]; exact e
    exact h h'.objs.size c' _ _ (J.laid (t' := tk) (fun b o e => Heap.get?_push_of_some _ e) (Nat.le_refl _) lamF_new) ⟨ex0.trans (LamX.ExtN.of ex), fun b z => dom0 b (NdefX.upd_none z), tb2.ext ex⟩ (dom0 _ nf) upd_same (ex _ _ cC)
theorem ExtL.trans {T : List (Addr × Str)} {H H1 H2 : Hp} (a : ExtL T H H1) (b : ExtL T H1 H2) : ExtL T H H2 := ⟨a.ext.trans b.ext, fun x z => a.dom x (b.dom x z), b.tabs⟩
/-- reading of a lambda as a value -/
def tLamV (T : List (Addr × Str)) (cl : List (Str × Addr)) (l : LamI) : TE := fun _ H Q => LamX.Tabs T H ∧ ∀ (f c' : Addr) (dV : Value) (H1 : Hp), ExtL T H H1 → H f = none → H1 f = some (LamF cl f c' dV l) → H1 c' = some (LamX.CodeO c' l.q) → DflF H1 dV l.ps → (∀ t, dV = .ref t → H t = none) → Q (.ref f) H1
theorem pe_lam0 {T : List (Addr × Str)} {c P : Addr} {params : Arguments} {body : Expr} {scope : Scope} {pos : Pos} (TB : LamX.TabB X.base X.mg c P) (hcode : X.env.code = .ref c) (hm : (P, X.env.qual ++ "<lambda>") ∈ T) (hu : ∀ p ∈ T, p.1 = P → p.2 = X.env.qual ++ "<lambda>")
    (hfree : ∀ y ∈ scope.names, y.2 = .free → X.env.kindOf y.1 = some .cell ∨ X.env.kindOf y.1 = some .free) (hdef : defaultsOf params X.env = ([], [])) (hd0 : params.defaults = []) : PE X (.Lambda params body scope pos) (tLamV T X.env.cells ⟨X.env.qual ++ "<lambda>", params, body, scope⟩) := by
  refine ⟨fun pins s σ H Q I ⟨hT, h⟩ => ?_⟩
  refine PySem.W.kla_eval hdef ?_
  rw [makeFunction_eq]
  simp only [List.zip_nil_right, List.filterMap_nil, List.isEmpty_nil, if_true, pure_bind]
  exact lam_tail (l := ⟨X.env.qual ++ "<lambda>", params, body, scope⟩) I TB hcode hm hu hT (fun y hy e => I.ok.has _ (hfree y hy e)) fun f c' H1 s' J x nf hf hc => ⟨.ref f, H1, J, rfl, h f c' .none H1 x nf hf hc (.inl ⟨hd0, rfl⟩) fun t z => by cases z⟩
theorem pe_lam1 {T : List (Addr × Str)} {c P : Addr} {params : Arguments} {body : Expr} {scope : Scope} {pos pc : Pos} {i : Int} {j : Nat} (TB : LamX.TabB X.base X.mg c P) (hcode : X.env.code = .ref c) (hm : (P, X.env.qual ++ "<lambda>") ∈ T) (hu : ∀ p ∈ T, p.1 = P → p.2 = X.env.qual ++ "<lambda>")
    (hfree : ∀ y ∈ scope.names, y.2 = .free → X.env.kindOf y.1 = some .cell ∨ X.env.kindOf y.1 = some .free) (hd1 : params.defaults = [.Constant (.int i) j pc]) (hk0 : params.kw_defaults = []) : PE X (.Lambda params body scope pos) (tLamV T X.env.cells ⟨X.env.qual ++ "<lambda>", params, body, scope⟩) := by
  refine ⟨fun pins s σ H Q I ⟨hT, h⟩ => ?_⟩
  refine PySem.W.kdv_lam (by rw [hd1]; rfl) hk0 ?_
  rw [hd1]
  refine PySem.W.kdv_all1 (thn ((pe_int (X := X) (i := i) (j := j) (pos := pc)).run pins s σ H (fun v H' => v = .int i ∧ H' = H) I ⟨rfl, rfl⟩) fun v s1 hv => PySem.W.kdv_all0 ?_)
  obtain ⟨y, H', J, rv, rfl, rfl⟩ := hv
  rw [makeFunction_eq]
  simp only [List.zip_nil_right, List.filterMap_nil, List.isEmpty_nil, if_true, pure_bind, List.isEmpty_cons, Bool.false_eq_true, if_false]
  refine wpAny_bind (wpAny_newTextTuple ?_)
  have nt : H' s1.heap.objs.size = none := J.hok.fresh (Nat.le_refl _)
  have ex : ∀ b o, H' b = some o → upd H' s1.heap.objs.size (.tup [.int i]) b = some o := fun b o e => by rw [upd_ne (ne_of_none e nt)]; exact e
  have J2 : Inv X pins σ (upd H' s1.heap.objs.size (.tup [.int i])) { s1 with heap := s1.heap.push { cls := .type "tuple", data := .seq [v].toArray } } :=
    J.laid (t' := s1.toks) (fun b o e => Heap.get?_push_of_some _ e) (Nat.le_refl _) ⟨by show 1 ≤ sizeLine; decide, [v], .cons rv .nil, ⟨_, Heap.get?_push_size _ rfl, rfl, 0, rfl⟩⟩
  refine lam_tail (l := ⟨X.env.qual ++ "<lambda>", params, body, scope⟩) J2 TB hcode hm hu (hT.ext ex) (fun y hy e => J2.ok.has _ (hfree y hy e)) fun f c' H1 s' J3 x nf hf hc => ⟨.ref f, H1, J3, rfl, ?_⟩
  have n1 : H' f = none := NdefX.upd_none nf
  have x0 : ExtL T H' (upd H' s1.heap.objs.size (.tup [.int i])) := ⟨LamX.ExtN.of ex, fun b z => NdefX.upd_none z, hT.ext ex⟩
  refine h f c' (.ref s1.heap.objs.size) H1 (x0.trans x) n1 hf hc (.inr ⟨_, i, j, pc, hd1, rfl, x.ext _ _ upd_same fun _ z => by cases z⟩) fun t z => by cases z; exact nt
end
end Y
/-! ### a kept lambda is called -/
namespace Y
open PySem PySem.Spec PyProof.Rows L2
/-- the lambda's names: captured ones, globals, a parameter that is no name of the maker's -/
structure LamN (N : List Str) (sc scope : Scope) : Prop where
  kind : scope.kind = .function
  co : scope.isCoroutine = false
  gen : scope.isGenerator = false
  own : ∀ y ∈ scope.names, y.2 ≠ .cell
  par : ∀ y ∈ scope.names, y.2 = .local → y.1 ∉ N
  free : ∀ y ∈ scope.names, y.2 = .free → sc.names.lookup y.1 = some .cell ∨ sc.names.lookup y.1 = some .free
def lamNB (N : List Str) (sc scope : Scope) : Bool :=
  decide (scope.kind = .function) && (!scope.isCoroutine && (!scope.isGenerator && scope.names.all fun y => !decide (y.2 = .cell) && ((!decide (y.2 = .local) || !N.contains y.1) && (!decide (y.2 = .free) || (decide (sc.names.lookup y.1 = some .cell) || decide (sc.names.lookup y.1 = some .free))))))
theorem lamN_by {N : List Str} {sc scope : Scope} (h : lamNB N sc scope = true) : LamN N sc scope := by
  unfold lamNB at h
  simp only [Bool.and_eq_true, Bool.or_eq_true, Bool.not_eq_true', decide_eq_true_eq, decide_eq_false_iff_not, List.all_eq_true] at h
  obtain ⟨h1, h2, h3, h4⟩ := h
  refine ⟨h1, h2, h3, fun y hy => (h4 y hy).1, fun y hy e => ?_, fun y hy e => ?_⟩
  · rcases (h4 y hy).2.1 with z | z
    · exact absurd e z
    · intro hm; rw [List.contains_iff_mem.mpr hm] at z; cases z
  · rcases (h4 y hy).2.2 with z | z
    · exact absurd e z
    · exact z
/-- how a call without arguments binds -/
inductive BindL (l : LamI) : Prop
  | non (hd : l.ps.defaults = []) (h : ∀ (cl : List (Str × Addr)) (doc pm cdv ct : Value), bindArgs (PySem.W.kdv_fn "<lambda>" l.q l.ps (.expr l.bd) l.sc cl .none doc pm cdv ct) ⟨[], []⟩ = pure [])
  | dfl (x : Str) (hx : l.sc.names.lookup x = some .local) (hd : l.ps.defaults ≠ []) (h : ∀ (cl : List (Str × Addr)) (T : Addr) (doc pm cdv ct : Value), ∃ k, bindArgs (PySem.W.kdv_fn "<lambda>" l.q l.ps (.expr l.bd) l.sc cl (.ref T) doc pm cdv ct) ⟨[], []⟩ = seqItems? (.ref T) >>= k ∧ ∀ v : Value, k (some #[v]) = pure [(x, v)])
section
variable {X : Cx} {pins : List (Addr × Obj)} {σ : L2.St} {H HZ : Hp} {s s1 : Shared}
theorem lam_startO {A : Around} {outer : List Env} {E : XK} {scope : Scope} {f c' : Addr} {h₁ : Heap} {tk : Nat} {m : Str → Option Value} (I : Inv X pins σ H s) (L : LamN X.N X.env.scope scope) (e0 : Env0 X.prog X.w X.K X.mg X.base A outer s1 HZ) (hd : A.handled = none)
    (ck : ∀ y c, X.env.cells.lookup y = some c → HZ c = none ∧ ∀ v, s.heap.IsCell c v → s1.heap.IsCell c v) (hns : h₁.Ns s1.heap.objs.size m) (kp : ∀ b o, s1.heap.get? b = some o → h₁.get? b = some o) :
    Inv (LamX.lamCx X A outer s1 HZ E scope f c') [] σ HZ { s1 with heap := h₁, toks := tk } := by
  have has : ∀ y ∈ scope.names, y.2 = .free → ∃ c, X.env.cells.lookup y.1 = some c := fun y hy e => I.ok.has _ (L.free y hy e)
  have back : ∀ {y c}, (cloFrom X.env.cells scope.names []).lookup y = some c → X.env.cells.lookup y = some c := fun {y c} e => by
    rcases cloFrom_mem (PySem.mem_of_lookup e) with hm | ⟨h1, h2⟩
    · cases hm
    · obtain ⟨c1, hc⟩ := has _ h1 rfl
      have hc : X.env.cells.lookup y = some c1 := hc
      rw [hc] at h2
      rw [hc, h2]; rfl
  have forth : ∀ {y}, scope.names.lookup y = some .free → ∃ c, (cloFrom X.env.cells scope.names []).lookup y = some c := fun {y} hl => mem_lookup (cloFrom_has (cells := X.env.cells) (acc := []) (show (y, NameKind.free) ∈ scope.names from PySem.mem_of_lookup hl))
  have cellK : ∀ {y : Str} {c : Addr} {v : Option Value}, X.env.cells.lookup y = some c → s.heap.IsCell c v → h₁.IsCell c v := fun {y c v} e z => by
    obtain ⟨o, ho, hd⟩ := (ck y c e).2 v z
    exact ⟨o, kp _ _ ho, hd⟩
  have none_ : ∀ b : Addr, b ∉ (LamX.lamCx X A outer s1 HZ E scope f c').ex := fun b z => by cases (show b ∈ ([] : List Addr) from z)
  refine ⟨⟨e0.mod, L.kind, rfl, rfl, Nat.le_refl _, fun y z c e1 e2 => I.ok.inj y z c (back e1) (back e2), fun y hy => ?_, fun y c z _ => ?_, fun _ => hd, Around.frames_deeper e0.frames, .inr ⟨rfl, rfl⟩, fun b z => absurd z (none_ b), e0.bs, e0.bsz, fun b _ _ => none_ b, fun b z => absurd z (none_ b), e0.funs, e0.frf⟩,
    rfl, e0.bare, Un.kept kp, ⟨m, hns, fun i y v e1 e2 e3 => ?_⟩, fun y c e => ?_, e0.hok.fresh (Nat.le_refl _), fun y c e => (ck y c (back e)).1, (fun q hq => by cases (show q ∈ ([] : List (Addr × Obj)) from hq)), e0.hok.kept kp, I.len⟩
  · have hy : scope.names.lookup y = some .cell ∨ scope.names.lookup y = some .free := hy
    rcases hy with hy | hy
    · exact absurd rfl (L.own _ (PySem.mem_of_lookup hy))
    · exact forth hy
  · have z : false = true := z
    cases z
  · have e3 : Vis scope y := e3
    have e1 : X.N[i]? = some y := e1
    rcases e3 with k | k | k
    · exact absurd (List.mem_of_getElem? e1) (L.par _ (PySem.mem_of_lookup k) rfl)
    · exact absurd rfl (L.own _ (PySem.mem_of_lookup k))
    · obtain ⟨mx, hn, hl⟩ := I.loc
      have hvis : Vis X.env.scope y := (L.free _ (PySem.mem_of_lookup k) rfl).elim (fun k => .inr (.inl k)) fun k => .inr (.inr k)
      obtain ⟨w', r, q⟩ := hl i y v e1 e2 hvis
      obtain ⟨c2, h2⟩ := forth k
      have c1 := back h2
      refine ⟨w', r, .inr ⟨.inr k, c2, h2, ?_⟩⟩
      rcases q with ⟨k', _⟩ | ⟨_, c3, e', z⟩
      · have k' : X.env.scope.names.lookup y = some .local := k'
        rcases L.free _ (PySem.mem_of_lookup k) rfl with k2 | k2 <;> rw [show X.env.scope.names.lookup y = _ from k2] at k' <;> cases k'
      · rw [c1] at e'
        cases e'
        exact cellK c1 z
  · obtain ⟨w', z⟩ := I.cell y c (back e)
    exact ⟨w', cellK (back e) z⟩
/-- a(), in a def that got a kept lambda of the maker's frame X; Y: where that def was called -/
theorem pe_actO {Z0 : Cx} {sY : Shared} {HY : Hp} {CXg : CXT} {Eg : XK} {Ng : List Str} {qg : Str} {sg : Scope} {g f c' : Addr} {cdg dV : Value} {l : LamI} {k i : Nat} {a : Str} {pn : List (Addr × Obj)} {xe : Value → Shared → Prop} {W : WX} {E : XK} {tb : TE} {p1 p2 : Pos}
    (hp : Z0.prog = X.prog) (hw : Z0.w = X.w) (hK : Z0.K = X.K) (hmg : Z0.mg = X.mg) (hbs : Z0.base = X.base)
    (I : Inv X pins σ H s) (L : LamN X.N X.env.scope l.sc) (hq : l.q = X.env.qual ++ "<lambda>") (hY : ∀ y c, X.env.cells.lookup y = some c → HY c = none ∧ ∀ v, s.heap.IsCell c v → sY.heap.IsCell c v) (hB : BindL l)
    (tk : Takes ((cxOf CXg X.prog X.w X.K X.mg X.base Ng qg sg g cdg Z0.A Z0.stack sY HY Eg).tr pn xe) W) (hW : ∀ cls d σ' H', E cls d H' → W cls d σ' H') (hr : Room (k + 1) (Z0.A.deeper (envOfC qg sg sY.heap.objs.size g cdg)))
    (hbody : ∀ (A : Around) (outer : List Env) (s : Shared) (H : Hp), Room k (A.deeper (LamX.lamEnv X l.sc s.heap.objs.size f c')) → PE (LamX.lamCx X A outer s H E l.sc f c') l.bd tb)
    (hN : Ng[i]? = some a) (hv : Vis sg a) (hd : (a == ("__debug__" : Str)) = false := by decide) (hcd : (a == ("__classdict__" : Str)) = false := by decide) :
    PE ((cxOf CXg X.prog X.w X.K X.mg X.base Ng qg sg g cdg Z0.A Z0.stack sY HY Eg).tr pn xe) (.Call (.Name a p1) [] [] p2)
      (fun σZ HZ Q => σZ[i]? = some (some (.ref f)) ∧ HZ f = some (LamF X.env.cells f c' dV l) ∧ HZ c' = some (LamX.CodeO c' l.q) ∧ DflF HZ dV l.ps ∧ tb σ HZ Q) := by
  refine ⟨fun pinsZ sZ σZ HZ Q IZ ⟨hs, hF, hc, hD, ht⟩ => ?_⟩
  refine wpAny_Call_Name_kw (thn ((pe_var (pos := p1) (i := i) hN hv hd hcd).run pinsZ sZ σZ HZ (fun v H1 => v = .ref f ∧ H1 = HZ) IZ ⟨.ref f, hs, rfl, rfl⟩) fun u s1 ⟨v, H1, I1, r1, ev, eH⟩ => ?_)
  subst ev
  rw [eH] at I1
  obtain rfl : u = Value.ref f := r1
  obtain ⟨⟨doc, pm, ctv, of1⟩, _, _⟩ := I1.hok f _ hF
  refine PySem.W.callWith_F0 ⟨_, _, _, _, of1⟩ ?_
  obtain ⟨⟨oc, vs, t, hoc, hdc, hvc⟩, _, _⟩ := I1.hok c' _ hc
  have un : Un (frs Z0.stack) [] HY HZ sY.heap s1.heap := I1.base
  have ck : ∀ y c, X.env.cells.lookup y = some c → HZ c = none ∧ ∀ v, s.heap.IsCell c v → s1.heap.IsCell c v := fun y c e => by
    obtain ⟨n0, q0⟩ := hY y c e
    obtain ⟨v0, z0⟩ := I.cell y c e
    obtain ⟨o0, ho0, _⟩ := q0 v0 z0
    refine ⟨un.free c o0 ho0 n0 (by simp), fun v z => ?_⟩
    obtain ⟨o, ho, hdt⟩ := q0 v z
    obtain ⟨sl, q1⟩ := un.any ho n0 (by simp)
    exact ⟨_, q1, hdt⟩
  have hb : ∃ binds, BindsTo s1 (PySem.W.kdv_fn "<lambda>" l.q l.ps (.expr l.bd) l.sc (cloFrom X.env.cells l.sc.names []) dV doc pm (.ref c') ctv) ⟨[], []⟩ binds ∧ ∀ y ∈ binds, l.sc.names.lookup y.1 = some .local := by
    cases hB with
    | non h0 h =>
      rcases hD with ⟨_, rfl⟩ | ⟨T, i, j, p, e, _⟩
      · exact ⟨[], .of_eq (h _ _ _ _ _), fun y hy => by cases hy⟩
      · rw [h0] at e; cases e
    | dfl x hx h0 h =>
      rcases hD with ⟨e, _⟩ | ⟨T, i, j, p, e, rfl, hT⟩
      · exact absurd e h0
      · obtain ⟨_, its, hv, o, ho, _, n, hdt⟩ := I1.hok T _ hT
        obtain ⟨kk, b1, b2⟩ := h (cloFrom X.env.cells l.sc.names []) T doc pm (.ref c') ctv
        obtain ⟨v, rfl⟩ : ∃ v, its = [v] := by
          cases hv with
          | cons r t => cases t; exact ⟨_, rfl⟩
        exact ⟨[(x, v)], .of_defaults rfl ho hdt b1 (b2 v), fun y hy => by simp only [List.mem_singleton] at hy; rw [hy]; exact hx⟩
  obtain ⟨binds, hbd, hbl⟩ := hb
  have rc : codeAny (model X.prog X.w) (Z0.A.deeper (envOfC qg sg sY.heap.objs.size g cdg)) (.call (.ref f) ⟨[], []⟩) (CR (L2.CX X.prog X.w) (envOfC qg sg sY.heap.objs.size g cdg :: Z0.stack) X.prog X.w HZ s1 Q E) s1 := by
    refine PySem.W.kla_callFunE hr.depth of1 rfl L.co L.gen rfl ⟨c', oc, vs, t, rfl, hoc, hdc, hvc⟩ (hbd _ _ _ _ ?_)
    refine wpAny_newFunctionEnv (fun y hy => L.own y hy) hbl (fun h₁ hns hsb => ⟨I1.nolimit.fresh _ hsb, ?_⟩) L.kind
    have kp : ∀ b o, s1.heap.get? b = some o → h₁.get? b = some o := fun b o e => hsb.extBut b o (Nat.ne_of_lt (Heap.lt_size e)) (Heap.get?_push_of_some _ e)
    rw [hq]
    show codeAny _ _ (.expr l.bd (LamX.lamEnv X l.sc s1.heap.objs.size f c')) _ _
    have J : Inv (LamX.lamCx X (Z0.A.deeper (envOfC qg sg sY.heap.objs.size g cdg)) (envOfC qg sg sY.heap.objs.size g cdg :: Z0.stack) s1 HZ E l.sc f c') [] σ HZ { s1 with heap := h₁, toks := s1.toks + binds.length } :=
      lam_startO I L I1.env0 hr.hd ck hns kp
    refine PySem.W.kla_codeExpr (wpAny_mono ((hbody _ _ s1 HZ (hr.deeper _)).run [] _ _ HZ Q J ht) (fun v s' hq => ?_) fun e s' hq => hq)
    obtain ⟨w', H', J', rv, q⟩ := hq
    exact ⟨w', H', J'.os, J'.bare, J'.base, J'.hok, rv, q⟩
  have hx : Passes (L2.CX X.prog X.w) ((cxOf CXg X.prog X.w X.K X.mg X.base Ng qg sg g cdg Z0.A Z0.stack sY HY Eg).tr pn xe) E := passes_call tk hW
  refine wpAny_call (codeAny_mono rc fun r s' hq => ?_)
  cases r with
  | error e => exact hx pinsZ σZ HZ s1 e s' I1 hq
  | ok fl =>
    cases fl with
    | ret u => exact I1.after hq
    | next => exact False.elim hq
    | brk => exact False.elim hq
    | cont => exact False.elim hq
end
end Y
/-! ### [refused(ask) for ask in asks], where asks is a list of lambdas -/
namespace Y
open PySem PySem.Spec PyProof.Rows L2
theorem pe_weak {X : Cx} {e : Expr} {t t' : TE} (p : PE X e t) (h : ∀ σ H Q, t' σ H Q → t σ H Q) : PE X e t' := ⟨fun pins s σ H Q I q => p.run pins s σ H Q I (h σ H Q q)⟩
/-- what the def that tells an error makes of a reading -/
theorem ref_run {g : G} {K : PySem.W.Frag} {cl : List (List Value × Str)} {tbl : List (Str × Str)} (hcl : ∀ c F, tbl.lookup c = some F → ∃ C, g.cls c = some C ∧ XrK K C F ∧ hits K (.ref C) F cl) {fb : EM} {S : SL} {w : Bx} {σ : L2.St} {F : FH} {H : Hp} {Q : VK} (R : Rel g F w S σ H) (h : Post g F H Q E0 (eRef tbl fb S w))
    {ex : Hp → Prop} (hex : ∀ p o, H p = none → ex (upd H p o)) : TTref K cl (fun E H' Q' => ex H' ∧ tSem g (kE E) fb σ H' Q') H Q := by
  intro q nq
  refine ⟨hex q _ nq, ?_⟩
  have x2 := Ext.lay (o := .tup [.str "", .non]) R.sub R.bx nq
  refine ⟨F.upd q (.tup [.str "", .non]), S, w, R.ext x2, ?_⟩
  unfold eRef at h
  cases hf : fb S w with
  | bad => rw [hf] at h; exact h
  | ok d w1 =>
    rw [hf] at h
    intro v H' F' x3 r
    exact ⟨.ref q, rfl, h (.ref q) H' F' (x2.trans x3) (.tup (.inl (.inl (x3.ff.fz _ _ upd_same))) (.cons (.str "") (.cons .non .nil)))⟩
  | err c fs w1 =>
    rw [hf] at h
    intro cl' a vs H' F' x3 n kc l r
    unfold refD at h
    simp only at h
    cases ht : tbl.lookup c with
    | none => rw [ht] at h; exact h.elim
    | some Fn =>
      rw [ht] at h
      simp only at h
      cases h1 : fs.lookup ("tag" : Str) with
      | none => rw [h1] at h; exact h.elim
      | some t =>
        cases h2 : refF fs Fn with
        | none => rw [h1, h2] at h; exact h.elim
        | some z =>
          rw [h1, h2] at h
          obtain ⟨C, e1, e2, e3⟩ := hcl c Fn ht
          rw [kc] at e1; cases e1
          obtain ⟨tv, t1, t2⟩ := r.lookup h1
          have hz : ∃ fv, fldV vs Fn fv ∧ DR g F' fv z := by
            unfold refF at h2
            unfold fldV
            split at h2
            · rename_i hF
              cases h2
              exact ⟨.non, by rw [if_pos hF], .non⟩
            · rename_i hF
              obtain ⟨fv, z1, z2⟩ := r.lookup h2
              exact ⟨fv, by rw [if_neg hF]; exact z1, z2⟩
          obtain ⟨fv, z1, z2⟩ := hz
          refine ⟨Fn, e3, cl', rfl, e2, a, vs, tv, fv, rfl, l, t1, z1, fun p2' np => ?_⟩
          have x4 := Ext.lay (o := .tup [tv, fv]) x3.sub x3.bx np
          exact h (.ref p2') _ _ ((x2.trans x3).trans x4) (.tup (.inl (.inl upd_same)) (.cons (t2.mono x4.ff) (.cons (z2.mono x4.ff) .nil)))
/-- a lambda of the frame X and its meaning -/
structure LamD (X : Cx) (g : G) (k : Nat) (l : LamI) (fb : EM) : Prop where
  q : l.q = X.env.qual ++ "<lambda>"
  n : LamN X.N X.env.scope l.sc
  b : BindL l
  run : ∀ (A : Around) (outer : List Env) (s : Shared) (H : Hp) (E : XK) (f c' : Addr), Room k (A.deeper (LamX.lamEnv X l.sc s.heap.objs.size f c')) → DE (LamX.lamCx X A outer s H E l.sc f c') g (kE E) l.bd fb
inductive LamDs (X : Cx) (g : G) (k : Nat) : List LamI → List EM → Prop
  | nil : LamDs X g k [] []
  | cons {l : LamI} {fb : EM} {ls : List LamI} {fbs : List EM} (h : LamD X g k l fb) (r : LamDs X g k ls fbs) : LamDs X g k (l :: ls) (fb :: fbs)
theorem LamDs.get {X : Cx} {g : G} {k : Nat} : ∀ {ls : List LamI} {fbs : List EM} {i : Nat} {l : LamI}, LamDs X g k ls fbs → ls[i]? = some l → ∃ fb, fbs[i]? = some fb ∧ LamD X g k l fb
  | _, _, _, _, .nil, e => by simp at e
  | _, _, 0, _, .cons h _, e => by simp at e; subst e; exact ⟨_, rfl, h⟩
  | _, _, i + 1, _, .cons _ r, e => by
    obtain ⟨fb, h1, h2⟩ := r.get (i := i) (by simpa using e)
    exact ⟨fb, by simpa using h1, h2⟩
theorem LamDs.len {X : Cx} {g : G} {k : Nat} : ∀ {ls : List LamI} {fbs : List EM}, LamDs X g k ls fbs → ls.length = fbs.length
  | _, _, .nil => rfl
  | _, _, .cons _ r => congrArg (· + 1) r.len
theorem LamsOk.get {g : G} {F : FH} {H : Hp} : ∀ {vs : List V} {ls : List LamI} {i : Nat} {v : V}, LamsOk g F H vs ls → vs[i]? = some v → ∃ f c' dV l, v = .ref f ∧ ls[i]? = some l ∧ F f = some (LamF g.cl f c' dV l) ∧ DflF F dV l.ps ∧ H c' = some (LamX.CodeO c' l.q)
  | _, _, _, _, .nil, e => by simp at e
  | _, _, 0, _, .cons hf hd nb na hc _, e => by simp at e; exact ⟨_, _, _, _, e.symm, rfl, hf, hd, hc⟩
  | _, _, i + 1, _, .cons _ _ _ _ _ r, e => by
    obtain ⟨f, c', dV, l, h1, h2, h3⟩ := r.get (i := i) (by simpa using e)
    exact ⟨f, c', dV, l, h1, by simpa using h2, h3⟩
theorem LamsOk.len {g : G} {F : FH} {H : Hp} : ∀ {vs : List V} {ls : List LamI}, LamsOk g F H vs ls → vs.length = ls.length
  | _, _, .nil => rfl
  | _, _, .cons _ _ _ _ _ r => congrArg (· + 1) r.len
/-- what each lambda of the list is told, in order -/
def refsM (tbl : List (Str × Str)) : List EM → AM
  | [] => aNil
  | fb :: r => aCons (eRef tbl fb) (refsM tbl r)
open Classical in
noncomputable def oRefs (j iy : Nat) (ls : List LamI) (tbl : List (Str × Str)) (fbs : List EM) : AM := fun S w => if S[j]? = some (some (.lam ls)) ∧ fbs.length ≤ 1000 ∧ iy < S.length then refsM tbl fbs S w else .bad
def teRefs (X : Cx) (g : G) (cl : List (List Value × Str)) (k iy : Nat) (ls : List LamI) (σ : L2.St) : TE := fun σ' H' Q => ∃ l fb f c' dV, LamD X g k l fb ∧ σ'[iy]? = some (some (.ref f)) ∧ H' f = some (LamF X.env.cells f c' dV l) ∧ H' c' = some (LamX.CodeO c' (X.env.qual ++ "<lambda>")) ∧ DflF H' dV l.ps ∧
  TTref X.K cl (fun E HZ Q' => (HZ f = some (LamF X.env.cells f c' dV l) ∧ DflF HZ dV l.ps) ∧ tSem g (kE E) fb σ HZ Q') H' Q
section
variable {X : Cx} {g : G} {E : EK} {x y z : Str} {tbl : List (Str × Str)}
theorem pe_refAsk {k iy : Nat} {ls : List LamI} {pins : List (Addr × Obj)} {σ : L2.St} {s : Shared} {H : Hp} {scope : Scope} {ce : Env} {fp : List Addr} {ga : Addr} {ask : Str} {pg : Arguments} {sg : Scope} {bg : List Stmt} {dV0 kV doc pm cdv ct oc : Value} {an od : Option Addr} {osl : Array (Option Value)} {Ng : List Str} {cl : List (List Value × Str)} {p p1 pos : Pos}
    (I : Inv X pins σ H s) (hfp : ∀ b ∈ fp, FpOk X pins H b) (hm : X.mg x = some (.ref ga)) (hk : PySem.W.keepIn X.K (.ref ga) = true) (lk : X.K.lookup ga = some ⟨oc, od, .func (PySem.W.fnOf x x pg bg sg dV0 kV doc pm an cdv ct), osl⟩) (hcg : PySem.W.codeIn X.K cdv x = true) (hb : L2.Binds X.K (PySem.W.fnOf x x pg bg sg dV0 kV doc pm an cdv ct) [ask] [])
    (Sg : FnScope Ng [ask] sg) (hNg : Ng[0]? = some ask) (hva : Vis sg ask) (hG : LamX.GivesTo (X.blk s H scope ce fp) Ng x sg ga cdv bg ask (X.env.qual ++ "<lambda>") (TTref X.K cl)) (hr : Room (k + 2) X.A) (hg : Gl (X.blk s H scope ce fp) x) (hN : X.N[iy]? = some y) (hv : Vis ce.scope y)
    (hst : starEach [.Name y p1] ce = (false, eval (.Name y p1) ce) :: starEach [] ce) (hdb : (x == ("__debug__" : Str)) = false) (hd : (ask == ("__debug__" : Str)) = false) (hcd : (ask == ("__classdict__" : Str)) = false) (hd1 : (y == ("__debug__" : Str)) = false) (hcd1 : (y == ("__classdict__" : Str)) = false) :
    PE (X.blk s H scope ce fp) (.Call (.Name x p) [.Name y p1] [] pos) (teRefs X g cl k iy ls σ) := by
  refine ⟨fun pb sb σb Hb Q Ib ⟨l, fb, f, c', dV, hL, hσ, hF, hC, hD, hTT⟩ => ?_⟩
  refine wpAny_Call_Name_kw (ld_glob Ib hg hm (PySem.W.callWith_K (h₀ := X.base) Ib.ok.mod.kin hk ?_ (by rw [hst]) (by rfl)) hdb)
  show wpAny _ _ (spliced (backTo pos (starEach [.Name y p1] ce))) _ _ sb
  rw [hst]
  show wpAny _ _ (spliced ((false, eval (.Name y p1) ce) :: backTo pos (starEach [] ce))) _ _ sb
  refine Calls.spliced_cons (thn ((pe_var (X := X.blk s H scope ce fp) (pos := p1) hN hv hd1 hcd1).run pb sb σb Hb (fun v H1 => v = .ref f ∧ H1 = Hb) Ib ⟨.ref f, hσ, rfl, rfl⟩) fun u s1 ⟨v, H1, I1, r1, ev, eH⟩ => ?_)
  subst ev
  rw [eH] at I1
  obtain rfl : u = Value.ref f := r1
  refine Calls.spliced_nil ⟨I1.kIn, ?_⟩
  have un : Un (frs X.stack) fp H Hb s.heap s1.heap := I1.base
  have cells : ∀ y c, X.env.cells.lookup y = some c → Hb c = none ∧ ∀ v, s.heap.IsCell c v → s1.heap.IsCell c v := fun y c e => by
    have nfp : c ∉ fp := fun hb => (hfp c hb).2.2.2.2.1 y c e rfl
    obtain ⟨v0, o0, ho0, _⟩ := I.cell y c e
    refine ⟨un.free c o0 ho0 (I.freeC y c e) nfp, fun v ⟨o, ho, hdt⟩ => ?_⟩
    obtain ⟨sl, q1⟩ := un.any ho (I.freeC y c e) nfp
    exact ⟨_, q1, hdt⟩
  have out : codeAny (model X.prog X.w) X.A (.call (.ref ga) ⟨[.ref f], []⟩) (CR C8.CX0 X.stack X.prog X.w Hb s1 Q C8.E0) s1 :=
    LamX.run_ofS (N := Ng) (ps := [ask]) (us := [.ref f]) (vs := [.ref f]) lk hcg Sg hr I1.env0 (hb s1 [.ref f] I1.kIn rfl) (.cons rfl .nil) rfl fun hr' => by
      obtain ⟨t', ht', hq'⟩ := hG f c' s1 Hb Q _ (fun W pn xe E q1 q2 tk hW => pe_weak (pe_actO (X := X) (Z0 := X.blk s H scope ce fp) (i := 0) (dV := dV) (l := l) (c' := c') rfl rfl rfl rfl rfl I hL.n hL.q cells hL.b tk hW hr' (fun A outer s H hr2 => (hL.run A outer s H E f c' hr2).pe) hNg hva hd hcd) fun σZ HZ Q' ⟨h1, h2, h3⟩ => ⟨h1, h3.1.1, by rw [hL.q]; exact h2, h3.1.2, h3.2⟩) hC hTT
      exact ⟨t', ht'.nox, hq'⟩
  refine wpAny_call (codeAny_mono out fun r s2 hq => ?_)
  match r, hq with
  | .ok (.ret u), hq => exact I1.after hq
  | .error e, hq => exact (show False from hq).elim
  | .ok .next, hq => exact False.elim hq
  | .ok .brk, hq => exact False.elim hq
  | .ok .cont, hq => exact False.elim hq
end
end Y
namespace Y
open PySem PySem.Spec PyProof.Rows L2
theorem eRef_noerr {tbl : List (Str × Str)} {fb : EM} {S : SL} {w : Bx} {c : Str} {fl : List (Str × D)} {w1 : Bx} : eRef tbl fb S w ≠ .err c fl w1 := by
  unfold eRef refD
  intro h
  split at h
  · cases h
  · split at h
    · split at h <;> cases h
    · cases h
  · cases h
theorem refsM_cons {tbl : List (Str × Str)} {fb : EM} {r : List EM} {S : SL} {w wN : Bx} {rest : List D} (h : refsM tbl (fb :: r) S w = .ok rest wN) : ∃ d w1 ds, eRef tbl fb S w = .ok d w1 ∧ refsM tbl r S w1 = .ok ds wN ∧ rest = d :: ds := by
  unfold refsM aCons at h
  cases h1 : eRef tbl fb S w with
  | ok d w1 =>
    rw [h1, R.bind_ok] at h
    cases h2 : refsM tbl r S w1 with
    | ok ds w2 => rw [h2, R.bind_ok] at h; cases h; exact ⟨d, w1, ds, rfl, h2, rfl⟩
    | err c fl w2 => rw [h2] at h; cases h
    | bad => rw [h2] at h; cases h
  | err c fl w1 => rw [h1] at h; cases h
  | bad => rw [h1] at h; cases h
theorem refsM_noerr {tbl : List (Str × Str)} {S : SL} {c : Str} {fl : List (Str × D)} {w1 : Bx} : ∀ {fbs : List EM} {w : Bx}, refsM tbl fbs S w ≠ .err c fl w1
  | [], w, h => by cases h
  | fb :: r, w, h => by
    unfold refsM aCons at h
    cases h1 : eRef tbl fb S w with
    | ok d w2 =>
      rw [h1, R.bind_ok] at h
      cases h2 : refsM tbl r S w2 with
      | ok ds w3 => rw [h2, R.bind_ok] at h; cases h
      | err c' fl' w3 => exact refsM_noerr h2
      | bad => rw [h2] at h; cases h
    | err c' fl' w2 => exact eRef_noerr h1
    | bad => rw [h1] at h; cases h
section
variable {X : Cx} {g : G} {E : EK} {x y z : Str} {tbl : List (Str × Str)}
theorem do_refs (j iy : Nat) {k : Nat} {ls : List LamI} {fbs : List EM} {scope : Scope} {p p1 p2 p3 p4 pos : Pos} (own : List (Str × Nat)) (hK : g.K = X.K) (hcl : g.cl = X.env.cells) (M : RefK X.K X.mg g.cls x tbl) (hls : LamDs X g k ls fbs) (hr : Room (k + 2) X.A) (hcalm : X.calm = true) (hnd : X.N.Nodup) (bok : BlkOk X.N X.env.scope scope own)
    (hj : X.N[j]? = some z) (hvz : Vis X.env.scope z) (hN : X.N[iy]? = some y) (hiy : iy ∈ own.map (·.2)) (hg : ∀ (s : Shared) (H : Hp) (C : Addr) (cl : List (Str × Addr)) (fp : List Addr), Gl (X.blk s H scope (compEnvC scope cl C X.env) fp) x)
    (hv : ∀ (C : Addr) (cl : List (Str × Addr)), (compEnvC scope cl C X.env).scope.names.lookup y = some .local) (hst : ∀ (C : Addr) (cl : List (Str × Addr)), starEach [.Name y p1] (compEnvC scope cl C X.env) = (false, eval (.Name y p1) (compEnvC scope cl C X.env)) :: starEach [] (compEnvC scope cl C X.env))
    (hfold : ∀ v, foldedSetIterable (.Name z p4) X.env v = pure v := by intro _; rfl) (hdb : (x == ("__debug__" : Str)) = false := by decide) (hd1 : (y == ("__debug__" : Str)) = false := by decide) (hcd1 : (y == ("__classdict__" : Str)) = false := by decide) (hd2 : (z == ("__debug__" : Str)) = false := by decide) (hcd2 : (z == ("__classdict__" : Str)) = false := by decide) :
    DO X g E (.ListComp (.Call (.Name x p) [.Name y p1] [] p2) [⟨.Name y p3, .Name z p4, [], 0⟩] scope pos) (oRefs j iy ls tbl fbs) := by
  obtain ⟨ga, ask, told, en, pg, sg, dV0, kV, doc, pm, cdv, ct, oc, an, od, osl, hd0, hds, cl0, j1, j2, k1, q1, q2, q3, q4, q5, q6, q7, q8, q9, q10, q11, hm, hk, lk, hcg, hb, Sg, la, lt, le, hall, hR, htb⟩ := M.ex
  have hall : ∀ y ∈ [ask, told, en], (y == ("__debug__" : Str)) = false ∧ (y == ("__classdict__" : Str)) = false := fun y hy => by
    have := List.all_eq_true.mp hall y hy
    rw [Bool.and_eq_true, Bool.not_eq_true', Bool.not_eq_true'] at this
    exact this
  have da := hall ask (by simp)
  have dt := hall told (by simp)
  have de := hall en (by simp)
  refine ⟨_, pe_lcI (wi := iList X.K (tVar j)) (g := gName iy) (te := teRefs X g cl0 k iy ls) hcalm hnd (pi_list (pe_var hj hvz hd2 hcd2)) bok (fun s H C cl fp => pg_name (X := X.blk s H scope (compEnvC scope cl C X.env) fp) hnd hN (.inl (hv C cl)) (.inr (hv C cl)))
    (fun pins σ s H C cl fp I hfp => pe_refAsk I hfp hm hk lk hcg hb Sg rfl (.inl la) (ref_gives (X := X.blk s H scope (compEnvC scope cl C X.env) fp) Sg.nd lt le dt.1 dt.2 de.1 de.2 hR) hr (hg s H C cl fp) hN (.inl (hv C cl)) (hst C cl) hdb da.1 da.2 hd1 hcd1) hfold, fun σ H Q F S w R h => ?_⟩
  unfold oRefs at h
  by_cases hS : S[j]? = some (some (.lam ls)) ∧ fbs.length ≤ 1000 ∧ iy < S.length
  · rw [if_pos hS] at h
    obtain ⟨hS, h1000, hiS⟩ := hS
    obtain ⟨v, e1, pl, vs, rfl, hFp, hLs⟩ := R.sl j _ hS
    refine ⟨.ref pl, e1, pl, rfl, ⟨vs, SqL.of (R.sub _ _ hFp)⟩, fun D hD => ?_⟩
    cases hM : refsM tbl fbs S w with
    | bad => rw [hM] at h; exact h.elim
    | err c fl w1 => exact absurd hM refsM_noerr
    | ok all wN =>
      rw [hM] at h
      have nbD : D ≠ g.bx := not_box R.bx hD
      have hlen := hls.len
      have hlv := hLs.len
      refine lc_list (K := X.K) (a := pl) (xs := vs) (fun i H' => ∃ F' w' done rest acc, Ext g F H F' H' w' ∧ F'.free D ∧ H' D = some (.lst acc) ∧ DRs g F' acc done ∧ refsM tbl (fbs.drop i) S w' = .ok rest wN ∧ done ++ rest = all ∧ done.length = i) ?_ ?_ ?_ ?_
      · exact ⟨F, w, [], all, [], Ext.own R.sub R.bx hD, free_of R.sub R.bx hD, upd_same, .nil, hM, rfl, rfl⟩
      · rintro i H' _ ⟨F', w', done, rest, acc, xE, _⟩
        exact SqL.of (xE.sub _ _ (xE.ff.fz _ _ hFp))
      · rintro i v H' hx ⟨F', w', done, rest, acc, xE, fD, hHD, rA, hM', hdr, hdl⟩
        obtain ⟨f, c', dV, l, rfl, hl, hf, hdf, hc⟩ := (hLs.ext xE).get hx
        obtain ⟨fb, hfb, LD⟩ := hls.get hl
        have hdrop : fbs.drop i = fb :: fbs.drop (i + 1) := by
          obtain ⟨hlt, he⟩ := List.getElem?_eq_some_iff.mp hfb
          rw [List.drop_eq_getElem_cons hlt, he]
        rw [hdrop] at hM'
        obtain ⟨d, w1, ds, hE, hM2, rfl⟩ := refsM_cons hM'
        refine ⟨by rw [wipe_set hiy]; apply List.ext_getElem?; intro n; rw [wipe_get, wipe_get]; by_cases hn : n ∈ own.map (·.2) <;> simp [hn, wipe_length], ?_⟩
        unfold tYes
        simp only [if_true]
        have hi : iy < σ.length := by rw [← R.len]; exact hiS
        have hf' : H' f = some (LamF X.env.cells f c' dV l) := by rw [← hcl]; exact xE.sub _ _ hf
        refine ⟨l, fb, f, c', dV, LD, List.getElem?_set_self (by rw [wipe_length]; exact hi), hf', by rw [← LD.q]; exact hc, hdf.mono xE.sub, ?_⟩
        refine ref_run (K := X.K) htb (R.ext xE) ?_ (fun q o nq => ⟨by rw [upd_ne (ne_of_none hf' nq)]; exact hf', (hdf.mono xE.sub).mono fun a u e => by rw [upd_ne (ne_of_none e nq)]; exact e⟩)
        rw [hE]
        intro u H4 F4 x4 r4
        have h4D : H4 D = some (.lst acc) := x4.hh D _ nbD fD.2 (fun _ z => by cases z) hHD
        have al : acc.length = done.length := rA.length
        refine ⟨acc, h4D, ?_, F4, w1, done ++ [d], ds, acc ++ [u], Ext.mut (xE.trans x4) hD (x4.free fD hHD) nbD h4D (.inl ⟨_, rfl⟩), x4.free fD hHD, upd_same, (rA.mono x4.ff).append (.cons r4 .nil), hM2, by rw [← hdr]; simp, by simp [hdl]⟩
        have : i < vs.length := (List.getElem?_eq_some_iff.mp hx).1
        rw [al, hdl, ← sizeN_line]
        show i < 16777216
        omega
      · rintro H' ⟨F', w', done, rest, acc, xE, fD, hHD, rA, hM', hdr, hdl⟩
        rw [List.drop_eq_nil_of_le (by omega)] at hM'
        cases hM'
        rw [List.append_nil] at hdr
        subst hdr
        exact h D acc H' F' xE hD fD hHD rA
  · rw [if_neg hS] at h; exact h.elim
end
end Y
/-! ### asks = [lambda: .., lambda x=0: ..] -/
namespace Y
open PySem PySem.Spec PyProof.Rows L2
section
variable {g : G} {F : FH} {H : Hp} {w : Bx}
theorem BxOk.notext (b : BxOk g F w H) {a : Addr} {φ : Heap → Prop} (h : H a = some (.ext φ)) : a ≠ g.bx ∧ ∀ i, F.ad i ≠ some a := by
  refine ⟨fun e => ?_, fun i e => ?_⟩
  · obtain ⟨c, h1, _⟩ := b.at_
    rw [e, h1] at h; cases h
  · have hl := b.adl i a e
    obtain ⟨a', e1, _, _, e4⟩ := b.cel i _ (List.getElem?_eq_getElem hl)
    rw [e] at e1; cases e1
    revert e4
    cases w.st[i] with
    | lst ds => rintro ⟨vs, z, _⟩; rw [h] at z; cases z
    | dct ds => rintro ⟨vs, z, _⟩; rw [h] at z; cases z
    | obj c ds => rintro ⟨C, dx, vs, z, _⟩; rw [h] at z; cases z
    | lck ds => rintro ⟨vs, od, z, _⟩; rw [h] at z; cases z
end
def tLams (T : List (Addr × Str)) (cl : List (Str × Addr)) : List LamI → TA
  | [] => tNil
  | l :: r => tCons (tLamV T cl l) (tLams T cl r)
inductive LamEs (X : Cx) (T : List (Addr × Str)) : List Expr → List LamI → Prop
  | nil : LamEs X T [] []
  | cons {e : Expr} {l : LamI} {es : List Expr} {ls : List LamI} (h : PE X e (tLamV T X.env.cells l)) (hs : starEach (e :: es) X.env = (false, eval e X.env) :: starEach es X.env) (r : LamEs X T es ls) : LamEs X T (e :: es) (l :: ls)
theorem pa_lams {X : Cx} {T : List (Addr × Str)} {es : List Expr} {ls : List LamI} (h : LamEs X T es ls) : PA X es (tLams T X.env.cells ls) := by
  induction h with
  | nil => exact pa_nil
  | cons h hs r ih => exact pa_cons h ih hs
theorem lams_run {g : G} {σ : L2.St} : ∀ (ls : List LamI) {F : FH} {H : Hp} {w : Bx} {Q : List V → Hp → Prop}, Same F H → BxOk g F w H → (∀ vs H' F', Ext g F H F' H' w → LamsOk g F' H' vs ls → Q vs H') → tLams g.cls.tb g.cl ls σ H Q
  | [], F, H, w, Q, s, b, h => h [] H F (Ext.refl s b) .nil
  | l :: ls, F, H, w, Q, s, b, h => by
    refine ⟨b.tabs, fun f c' dV H1 eL nf hf hc hd ht => ?_⟩
    have x1 := Ext.lamL s b eL
    have x2 := Ext.freeze x1 nf (free_of s b nf) hf (not_box b nf) lamF_ne
    have key : ∀ F2 : FH, Ext g F H F2 H1 w → F2 f = some (LamF g.cl f c' dV l) → DflF F2 dV l.ps → tLams g.cls.tb g.cl ls σ H1 (fun vs H2 => Q (.ref f :: vs) H2) := fun F2 x3 hf2 hd2 => by
      obtain ⟨nb, na⟩ := x3.bx.notext (show H1 c' = some (.ext _) from hc)
      refine lams_run ls x3.sub x3.bx fun vs H' F' x' ok => h (.ref f :: vs) H' F' (x3.trans x') (.cons (x'.ff.fz _ _ hf2) (hd2.mono x'.ff.fz) nb (fun i z => ?_) (x'.hh c' _ nb na LamX.codeO_ne hc) ok)
      rcases x'.nad i c' z with q | q
      · exact na i q
      · rw [hc] at q; cases q
    rcases hd with ⟨h1, h2⟩ | ⟨t, i, j, p, h1, rfl, h3⟩
    · exact key _ x2 upd_same (.inl ⟨h1, h2⟩)
    · have ntf : t ≠ f := fun e => by rw [e, hf] at h3; unfold LamF at h3; cases h3
      have nt := ht t rfl
      have x3 := Ext.freeze x2 nt ((free_of s b nt).upd ntf) h3 (not_box b nt)
      refine key _ x3 ?_ (.inr ⟨t, i, j, p, h1, rfl, upd_same⟩)
      show L2.upd (L2.upd F.fz f _) t _ f = _
      rw [upd_ne ntf.symm, upd_same]
theorem Rel.setL {g : G} {F : FH} {H : Hp} {w : Bx} {S : SL} {σ : L2.St} {v : V} {ls : List LamI} (R : Rel g F w S σ H) (i : Nat) (r : SvOk g F H (.lam ls) v) : Rel g F w (S.set i (some (.lam ls))) (σ.set i (some v)) H := by
  refine ⟨R.sub, R.bx, by rw [List.length_set, List.length_set]; exact R.len, fun j s hs => ?_, fun j k ds ds2 u h1 h2 h3 h4 => ?_⟩
  · rw [List.getElem?_set] at hs ⊢
    by_cases e : i = j
    · rw [if_pos e] at hs ⊢
      by_cases hl : j < S.length
      · rw [if_pos (e ▸ hl)] at hs; cases hs
        rw [if_pos (by rw [e, ← R.len]; exact hl)]
        exact ⟨v, rfl, r⟩
      · rw [if_neg (e ▸ hl)] at hs; cases hs
    · rw [if_neg e] at hs ⊢; exact R.sl j s hs
  · rw [List.getElem?_set] at h1 h2 h3 h4
    by_cases e : i = j
    · rw [if_pos e] at h1; split at h1 <;> cases h1
    · by_cases e2 : i = k
      · rw [if_pos e2] at h2; split at h2 <;> cases h2
      · rw [if_neg e] at h1 h3; rw [if_neg e2] at h2 h4; exact R.inj j k ds ds2 u h1 h2 h3 h4
section
variable {X : Cx} {g : G} {E : EK} {F0 : FH} {H0 : Hp} {B : FH}
theorem RelS.setL {F : FH} {H : Hp} {w : Bx} {S : SL} {σ : L2.St} {v : V} {ls : List LamI} (R : RelS g F0 H0 B F w S σ H) (i : Nat) (r : SvOk g F H (.lam ls) v) : RelS g F0 H0 B F w (S.set i (some (.lam ls))) (σ.set i (some v)) H := by
  refine ⟨R.rel.setL i r, R.ext, R.fl, fun j ds p h1 h2 => ?_⟩
  rw [List.getElem?_set] at h1 h2
  by_cases e : i = j
  · rw [if_pos e] at h1; split at h1 <;> cases h1
  · rw [if_neg e] at h1 h2; exact R.fr j ds p h1 h2
end
/-! ### where the lambdas stand in a text -/
def subB : Stmt → Nat → List Stmt
  | .For _ _ b _ _, _ => b
  | .While _ b _ _, _ => b
  | .If _ a _ _, 0 => a
  | .If _ _ b _, _ => b
  | .Try b _ _ _ _, _ => b
  | _, _ => []
def stAt : List Stmt → List Nat → Stmt
  | ss, [i] => ss.getD i (.Pass ⟨0, 0, 0, 0⟩)
  | ss, i :: b :: r => stAt (subB (ss.getD i (.Pass ⟨0, 0, 0, 0⟩)) b) r
  | _, [] => .Pass ⟨0, 0, 0, 0⟩
def lamsOf (q : Str) : Stmt → List LamI
  | .Assign _ (.List es _) _ => es.filterMap fun e => match e with
    | .Lambda p b s _ => some ⟨q, p, b, s⟩
    | _ => none
  | _ => []
theorem x_refs {j iy : Nat} {ls : List LamI} {tbl : List (Str × Str)} {fbs : List EM} {S : SL} {w : Bx} {r : R (List D)} (h1 : S[j]? = some (some (.lam ls))) (h2 : fbs.length ≤ 1000) (h3 : iy < S.length) (h : refsM tbl fbs S w = r) : oRefs j iy ls tbl fbs S w = r := by
  unfold oRefs; rw [if_pos ⟨h1, h2, h3⟩]; exact h
theorem x_rfN {tbl : List (Str × Str)} {S : SL} {w : Bx} : refsM tbl [] S w = .ok [] w := rfl
theorem x_rfC {tbl : List (Str × Str)} {fb : EM} {r : List EM} {S : SL} {w w1 w2 : Bx} {d : D} {ds : List D} (ha : eRef tbl fb S w = .ok d w1) (hr : refsM tbl r S w1 = .ok ds w2) : refsM tbl (fb :: r) S w = .ok (d :: ds) w2 := by
  unfold refsM aCons; rw [ha, R.bind_ok, hr]; rfl
end Y
namespace Y
open PySem PySem.Spec PyProof.Rows L2
/-! ### errors, in the plain -/
section
variable {S S1 : SL} {w w1 w2 : Bx} {c f T : Str} {fs : List (Str × D)} {d z : D} {fe fa fb : EM} {ds : List D} {m k : SM}
theorem x_raise (h : fe S w = .ok d w1) : sRaise c f T fe S w = .err S c [("tag", .str T), (f, d)] w1 := by unfold sRaise; rw [h]; rfl
theorem x_runIE {n l : Nat} {body : SM} {c' : Str} (hl : ds.length + 1 = n) (h : body (startI l c' ds) w = .err S1 c fs w1) : runI c' n l body ds w = .err c fs w1 := by unfold runI; rw [if_pos hl, h]; rfl
theorem x_makeE {n : Nat → Bool} {mi : List D → Bx → R (List (Str × D))} {am : AM} {c' : Str} (ha : am S w = .ok ds w1) (hn : n ds.length = true) (hm : mi ds w1 = .err c fs w2) : eMake c' n mi am S w = .err c fs w2 := by
  unfold eMake; rw [ha, R.bind_ok, if_pos hn, hm]; rfl
theorem x_refE {tbl : List (Str × Str)} {F : Str} {t v : D} (h : fb S w = .err c fs w1) (h1 : tbl.lookup c = some F) (h2 : fs.lookup ("tag" : Str) = some t) (h3 : refF fs F = some v) : eRef tbl fb S w = .ok (.tup [t, v]) w1 := by
  unfold eRef refD; rw [h]; simp only [h1, h2, h3]
theorem x_ifTE (h : m S w1 = .err S1 c fs w2) {t : TM} (ht : t S w = .ok true w1) : sIf t m k S w = .err S1 c fs w2 := by unfold sIf; rw [ht]; exact h
end
end Y
namespace Y
open PySem PySem.Spec PyProof.Rows L2
/-! ### == of data without bools -/
mutual
def rig : D → Bool
  | .non => true
  | .int _ => true
  | .str _ => true
  | .lst ds => rigs ds
  | .tup ds => rigs ds
  | _ => false
def rigs : List D → Bool
  | [] => true
  | d :: ds => rig d && rigs ds
end
mutual
theorem eqv_rig : ∀ (d e : D) (p q : PyData), rig d = true → rig e = true → toPy d = some p → toPy e = some q → (PyData.eqv p q = true ↔ d = e)
  | .non, e, p, q, _, he, hp, hq => by
    rw [toPy] at hp; cases hp
    cases e <;> simp only [rig] at he <;> first | cases he | skip
    all_goals rw [toPy] at hq
    · cases hq; simp [PyData.eqv]
    · cases hq; simp [PyData.eqv]
    · cases hq; simp [PyData.eqv]
    · obtain ⟨ps, _, rfl⟩ := Option.map_eq_some_iff.mp hq; simp [PyData.eqv]
    · obtain ⟨ps, _, rfl⟩ := Option.map_eq_some_iff.mp hq; simp [PyData.eqv]
  | .int i, e, p, q, _, he, hp, hq => by
    rw [toPy] at hp; cases hp
    cases e <;> simp only [rig] at he <;> first | cases he | skip
    all_goals rw [toPy] at hq
    · cases hq; simp [PyData.eqv]
    · cases hq; simp [PyData.eqv]
    · cases hq; simp [PyData.eqv]
    · obtain ⟨ps, _, rfl⟩ := Option.map_eq_some_iff.mp hq; simp [PyData.eqv]
    · obtain ⟨ps, _, rfl⟩ := Option.map_eq_some_iff.mp hq; simp [PyData.eqv]
  | .str i, e, p, q, _, he, hp, hq => by
    rw [toPy] at hp; cases hp
    cases e <;> simp only [rig] at he <;> first | cases he | skip
    all_goals rw [toPy] at hq
    · cases hq; simp [PyData.eqv]
    · cases hq; simp [PyData.eqv]
    · cases hq; simp [PyData.eqv]
    · obtain ⟨ps, _, rfl⟩ := Option.map_eq_some_iff.mp hq; simp [PyData.eqv]
    · obtain ⟨ps, _, rfl⟩ := Option.map_eq_some_iff.mp hq; simp [PyData.eqv]
  | .lst ds, e, p, q, hd, he, hp, hq => by
    rw [toPy] at hp
    obtain ⟨xs, ex, rfl⟩ := Option.map_eq_some_iff.mp hp
    cases e <;> simp only [rig] at he <;> first | cases he | skip
    all_goals rw [toPy] at hq
    · cases hq; simp [PyData.eqv]
    · cases hq; simp [PyData.eqv]
    · cases hq; simp [PyData.eqv]
    · obtain ⟨ps, e1, rfl⟩ := Option.map_eq_some_iff.mp hq
      have := eqvs_rig ds _ xs ps (by simpa [rig] using hd) he ex e1
      simp [PyData.eqv, this]
    · obtain ⟨ps, _, rfl⟩ := Option.map_eq_some_iff.mp hq; simp [PyData.eqv]
  | .tup ds, e, p, q, hd, he, hp, hq => by
    rw [toPy] at hp
    obtain ⟨xs, ex, rfl⟩ := Option.map_eq_some_iff.mp hp
    cases e <;> simp only [rig] at he <;> first | cases he | skip
    all_goals rw [toPy] at hq
    · cases hq; simp [PyData.eqv]
    · cases hq; simp [PyData.eqv]
    · cases hq; simp [PyData.eqv]
    · obtain ⟨ps, _, rfl⟩ := Option.map_eq_some_iff.mp hq; simp [PyData.eqv]
    · obtain ⟨ps, e1, rfl⟩ := Option.map_eq_some_iff.mp hq
      have := eqvs_rig ds _ xs ps (by simpa [rig] using hd) he ex e1
      simp [PyData.eqv, this]
  | .bl _, _, _, _, hd, _, _, _ => by simp [rig] at hd
  | .box, _, _, _, hd, _, _, _ => by simp [rig] at hd
  | .obj _ _, _, _, _, hd, _, _, _ => by simp [rig] at hd
  | .dct _, _, _, _, hd, _, _, _ => by simp [rig] at hd
  | .cel _, _, _, _, hd, _, _, _ => by simp [rig] at hd
theorem eqvs_rig : ∀ (ds es : List D) (ps qs : List PyData), rigs ds = true → rigs es = true → toPys ds = some ps → toPys es = some qs → (PyData.eqvAll ps qs = true ↔ ds = es)
  | [], [], ps, qs, _, _, hp, hq => by rw [toPys] at hp hq; cases hp; cases hq; simp [PyData.eqvAll]
  | [], e :: es, ps, qs, _, _, hp, hq => by
    rw [toPys] at hp; rw [toPys] at hq; cases hp
    obtain ⟨y, _, h2⟩ := Option.bind_eq_some_iff.mp hq
    obtain ⟨ys, _, h3⟩ := Option.bind_eq_some_iff.mp h2
    cases h3; simp [PyData.eqvAll]
  | d :: ds, [], ps, qs, _, _, hp, hq => by
    rw [toPys] at hp; rw [toPys] at hq; cases hq
    obtain ⟨y, _, h2⟩ := Option.bind_eq_some_iff.mp hp
    obtain ⟨ys, _, h3⟩ := Option.bind_eq_some_iff.mp h2
    cases h3; simp [PyData.eqvAll]
  | d :: ds, e :: es, ps, qs, hd, he, hp, hq => by
    rw [toPys] at hp hq
    obtain ⟨x, x1, h2⟩ := Option.bind_eq_some_iff.mp hp
    obtain ⟨xs, x2, h3⟩ := Option.bind_eq_some_iff.mp h2
    cases h3
    obtain ⟨y, y1, h2⟩ := Option.bind_eq_some_iff.mp hq
    obtain ⟨ys, y2, h3⟩ := Option.bind_eq_some_iff.mp h2
    cases h3
    rw [rigs, Bool.and_eq_true] at hd he
    have a := eqv_rig d e x y hd.1 he.1 x1 y1
    have b := eqvs_rig ds es xs ys hd.2 he.2 x2 y2
    simp [PyData.eqvAll, a, b]
end
theorem eqB_rig {n m : Nat} {d e : D} (hd : niceN n d) (he : niceN m e) (hn : n ≤ 64 := by decide) (hm : m ≤ 64 := by decide) (rd : rig d = true) (re : rig e = true) : ∃ b : Bool, eqB d e = some b ∧ (b = true ↔ d = e) := by
  obtain ⟨p, p1, p2⟩ := nice_shp hd hn
  obtain ⟨q, q1, q2⟩ := nice_shp he hm
  have key := eqv_rig d e p q rd re p1 q1
  have gen : (shp d).bind (fun p => (shp e).bind fun q => some (PyData.eqv p q)) = some (PyData.eqv p q) := by rw [p2, q2]; rfl
  unfold eqB
  split
  · exact ⟨_, rfl, by simp⟩
  · exact ⟨_, rfl, by simp⟩
  · exact ⟨_, rfl, by simp⟩
  · exact ⟨_, gen, key⟩
theorem mEq_rig {n m : Nat} {d e : D} (hd : niceN n d) (he : niceN m e) (hn : n ≤ 64 := by decide) (hm : m ≤ 64 := by decide) (rd : rig d = true) (re : rig e = true) : ∃ b : Bool, mEq d e = some (.bl b) ∧ mNe d e = some (.bl !b) ∧ (b = true ↔ d = e) := by
  obtain ⟨b, h1, h2⟩ := eqB_rig hd he hn hm rd re
  exact ⟨b, by unfold mEq; rw [h1]; rfl, by unfold mNe; rw [h1]; rfl, h2⟩
theorem rigs_map {α : Type} {f : α → D} {l : List α} (h : ∀ x ∈ l, rig (f x) = true) : rigs (l.map f) = true := by
  induction l with
  | nil => rfl
  | cons a l ih => rw [List.map_cons, rigs, h a (by simp), ih fun x hx => h x (by simp [hx])]; rfl
/-! ### a loop that ends with an error -/
theorem x_forNE0 {gm : GM} {body : SM} {c : Str} {fs : List (Str × D)} {we : Bx} (f : Nat → D) (I : Nat → SL → Bx → Prop) (n : Nat) (hs : ∀ i S w, i < n → I i S w → ∃ S1 S2 w2, gm (f i) S = some S1 ∧ body S1 w = .nx S2 w2 ∧ I (i + 1) S2 w2) (hE : ∀ S w, I n S w → ∃ S1 S2, gm (f n) S = some S1 ∧ body S1 w = .err S2 c fs we) :
    ∀ (k i j : Nat) (S : SL) (w : Bx), i + k = n → I i S w → ∃ S2, forLoop gm body ((List.range' i (k + 1 + j)).map f) S w = .err S2 c fs we
  | 0, i, j, S, w, e, h => by
    obtain ⟨S1, S2, h1, h2⟩ := hE S w (by rw [← e]; exact h)
    refine ⟨S2, ?_⟩
    have e' : i = n := by omega
    subst e'
    rw [show 0 + 1 + j = j + 1 by omega, List.range'_succ, List.map_cons]
    show (match gm (f i) S with | none => RS.bad | some S1 => _) = _
    rw [h1]
    simp only [h2]
  | k + 1, i, j, S, w, e, h => by
    obtain ⟨S1, S2, w2, h1, h2, h3⟩ := hs i S w (by omega) h
    obtain ⟨S3, h4⟩ := x_forNE0 f I n hs hE k (i + 1) j S2 w2 (by omega) h3
    refine ⟨S3, ?_⟩
    rw [show k + 1 + 1 + j = (k + 1 + j) + 1 by omega, List.range'_succ, List.map_cons]
    show (match gm (f i) S with | none => RS.bad | some S1 => _) = _
    rw [h1]
    simp only [h2]
    exact h4
theorem x_forNE {gm : GM} {body : SM} {c : Str} {fs : List (Str × D)} {we : Bx} (f : Nat → D) (I : Nat → SL → Bx → Prop) (n m : Nat) (hm : n < m) {S : SL} {w : Bx} (h0 : I 0 S w) (hs : ∀ i S w, i < n → I i S w → ∃ S1 S2 w2, gm (f i) S = some S1 ∧ body S1 w = .nx S2 w2 ∧ I (i + 1) S2 w2) (hE : ∀ S w, I n S w → ∃ S1 S2, gm (f n) S = some S1 ∧ body S1 w = .err S2 c fs we) :
    ∃ S2, forLoop gm body ((List.range m).map f) S w = .err S2 c fs we := by
  obtain ⟨S2, h⟩ := x_forNE0 f I n hs hE n 0 (m - n - 1) S w (by omega) h0
  rw [show n + 1 + (m - n - 1) = m by omega] at h
  rw [List.range_eq_range']
  exact ⟨S2, h⟩
end Y
namespace Y
open PySem PySem.Spec PyProof.Rows L2
/-! ### a loop that folds -/
/-! ### the order of rows -/
def smpR (p q c r s : Nat) : List Nat := smp p q ++ c :: smp r s
/-! ### conflicts of two scripts -/
/-- an item of the search -/
structure It5 where
  p : Nat
  q : Nat
  r : Nat
  s : Nat
  c : Nat
def It5.row (i : It5) : List Nat := smpR i.p i.q i.c i.r i.s
def pairs (R : Nat) : List (Nat × Nat) := (List.range (R + 1)).flatMap fun i => (List.range (R + 1)).map fun j => (i, j)
def items (R : Nat) : List It5 := (pairs R).flatMap fun x => (pairs R).flatMap fun y => [97, 98].map fun c => ⟨x.1, x.2, y.1, y.2, c⟩
end Y
namespace Y
open PySem PySem.Spec PyProof.Rows L2
/-! ### all rows up to a length -/
end Y
/-! ### an evaluator that never goes back: each form by one lemma -/
namespace Y
open PySem PySem.Spec PyProof.Rows L2
section
variable {S S1 S2 : SL} {w w1 w2 w3 : Bx} {m k : SM} {f fa fb fo : EM} {fs : AM} {t ta tb : TM} {d e z : D} {ds es : List D} {i j : Nat} {b : Bool} {r r1 : RS} {c n : Str}
def notE : Bool → Bx → R D
  | b, w => .ok (.bl (!b)) w
/-! slots, laid out anew -/
theorem cls_at {fl : List (Str × D)} : isCls c (.obj c fl) = true := by unfold isCls; simp
end
end Y
namespace Y
open PySem PySem.Spec PyProof.Rows L2
section
variable {X : Cx} {g : G} {E : EK} {e a b o v1 v2 : Expr} {es rest : List Expr} {pos p p2 : Pos} {f fa fb fo : EM} {fs : List EM} {x c m : Str} {k n : Nat} {mm : List D → Bx → R D}
/-! ### f-strings of texts and ints -/
def mFmt : D → Option D
  | .str s => if s.length ≤ sizeN then some (.str s) else none
  | .int i => if i.natAbs.log2 < 1920 then some (.str (toString i)) else none
  | _ => none
theorem de_fmt (ha : DE X g E a fa) : DE X g E (.FormattedValue a (-1) none pos) (e1 mFmt fa) := by
  obtain ⟨t, p, r⟩ := ha.run
  refine ⟨_, pe_fmt p, fun σ H Q F S w R h => ?_⟩
  refine r σ H _ F S w R (PostG.imp (PostG.bind h) fun d w1 hd h1 v H1 F1 x1 r1 => ?_)
  clear hd
  obtain ⟨z, hz, q⟩ := post_ofO h1
  cases r1 with
  | str s =>
    unfold mFmt at hz
    by_cases hl : s.length ≤ sizeN
    · simp only [if_pos hl] at hz
      cases hz
      exact .inl ⟨s, rfl, hl, q _ H1 F1 x1 (.str _)⟩
    · simp only [if_neg hl] at hz; cases hz
  | int i =>
    unfold mFmt at hz
    by_cases hl : i.natAbs.log2 < 1920
    · simp only [if_pos hl] at hz
      cases hz
      exact .inr ⟨i, rfl, hl, q _ H1 F1 x1 (.str _)⟩
    · simp only [if_neg hl] at hz; cases hz
  | _ => unfold mFmt at hz; cases hz
def jsM : List EM → Str → SL → Bx → R D
  | [], acc, _, w => .ok (.str acc) w
  | f :: fs, acc, S, w => (f S w).bind fun d w1 => match d with
    | .str y => if (acc ++ y).length ≤ sizeN then jsM fs (acc ++ y) S w1 else .bad
    | _ => .bad
inductive DJ (X : Cx) (g : G) (E : EK) : List Expr → List EM → Prop where
  | nil : DJ X g E [] []
  | cons {e : Expr} {f : EM} {es : List Expr} {fs : List EM} (h : DE X g E e f) (r : DJ X g E es fs) : DJ X g E (e :: es) (f :: fs)
def eJoin (fs : List EM) : EM := fun S w => jsM fs Str.empty S w
theorem DJ.pj (h : DJ X g E es fs) : ∃ ts, PJ X es ts ∧ ∀ (acc : Str) σ H (Q : Str → Hp → Prop) F S w, Rel g F w S σ H → Post g F H (fun v H' => ∃ z : Str, v = .str z ∧ Q z H') (E σ) (jsM fs acc S w) → tJs ts acc σ H Q := by
  induction h with
  | nil =>
    refine ⟨[], .nil, fun acc σ H Q F S w R h => ?_⟩
    obtain ⟨z, ez, q⟩ := h (.str acc) H F R.ex (.str acc)
    cases ez
    exact q
  | cons h r ih =>
    obtain ⟨ts, pj, run⟩ := ih
    obtain ⟨t, p, rr⟩ := h.run
    refine ⟨t :: ts, .cons p pj, fun acc σ H Q F S w R h => ?_⟩
    refine rr σ H _ F S w R (PostG.imp (PostG.bind h) fun d w1 hd h1 v H1 F1 x1 r1 => ?_)
    clear hd
    cases r1 with
    | str y =>
      simp only at h1
      by_cases hl : (acc ++ y).length ≤ sizeN
      · rw [if_pos hl] at h1
        exact ⟨y, rfl, hl, run (acc ++ y) σ H1 Q F1 S w1 (R.ext x1) (Post.of x1 h1)⟩
      · rw [if_neg hl] at h1; exact h1.elim
    | _ => exact h1.elim
theorem jsM_str : ∀ {fs : List EM} {acc : Str} {S : SL} {w w1 : Bx} {d : D}, jsM fs acc S w = .ok d w1 → ∃ z, d = .str z
  | [], acc, S, w, w1, d, h => by cases h; exact ⟨_, rfl⟩
  | f :: fs, acc, S, w, w1, d, h => by
    unfold jsM at h
    cases hf : f S w with
    | ok e w2 =>
      rw [hf, R.bind_ok] at h
      cases e with
      | str y =>
        simp only at h
        by_cases hl : (acc ++ y).length ≤ sizeN
        · rw [if_pos hl] at h; exact jsM_str h
        · rw [if_neg hl] at h; cases h
      | _ => cases h
    | _ => rw [hf] at h; cases h
theorem de_fstr (h : DJ X g E (v1 :: v2 :: rest) fs) : DE X g E (.JoinedStr (v1 :: v2 :: rest) pos) (eJoin fs) := by
  obtain ⟨ts, pj, run⟩ := h.pj
  refine ⟨_, pe_joined pj, fun σ H Q F S w R h => ?_⟩
  refine run Str.empty σ H _ F S w R (PostG.imp h fun d w1 hd h1 v H1 F1 x1 r1 => ?_)
  obtain ⟨z, rfl⟩ := jsM_str hd
  cases r1 with
  | str z => exact ⟨z, rfl, h1 _ H1 F1 x1 (.str z)⟩
/-! ### len(x), repr(x) by an own method -/
def rLenI (C : Addr) (sp : Sp) (E : XK) : List V → Hp → VK → Prop := fun xs H Q => ∃ a dx fs, xs = [.ref a] ∧ H a = some (.ins C dx fs) ∧ sp [.ref a] H (fun v H' => ∃ n : Int, v = .int n ∧ 0 ≤ n ∧ n < 2 ^ 63 ∧ Q (.int n) H') E
def rReprI (C : Addr) (sp : Sp) (E : XK) : List V → Hp → VK → Prop := fun xs H Q => ∃ a dx fs, xs = [.ref a] ∧ H a = some (.ins C dx fs) ∧ sp [.ref a] H (fun v H' => ∃ z : Str, v = .str z ∧ Q (.str z) H') E
theorem call_lenI {E : XK} {C f : Addr} {sp : Sp} (F : FnR X.prog X.w X.K X.mg X.base (L2N.CX X.prog X.w) k f sp) (hr : Room (k + 1) X.A) (hx : Passes (L2N.CX X.prog X.w) X E) (hs : PySem.W.findIn X.K (.ref C) "__len__" = some (some (.ref f))) (hf : PySem.W.isFn X.K (.ref f) = true) :
    CallR X (.builtin "len") (rLenI C sp E) := by
  intro pins s σ H xs us Q I r h
  obtain ⟨a, dx, fs, rfl, ha, q⟩ := h
  obtain ⟨u, rfl, rx⟩ := vals1 r
  cases rx
  obtain ⟨mA, J, _⟩ := ins_get I.hok ha
  obtain ⟨od, J, _⟩ := J.look
  obtain ⟨m, hF⟩ := I.fr
  refine PySem.W.len_K hF I.ok.mod.kin J hs hf ?_
  have e0 : Env0 X.prog X.w X.K X.mg X.base X.A.in1 X.stack s H := by
    have e := I.env0
    exact ⟨e.frames, e.mod, e.bs, e.bsz, e.funs, e.frf, e.hok, e.bare⟩
  refine wpAny_call (codeAny_mono (F X.A.in1 X.stack s H [.ref a] [.ref a] _ E hr.in1 e0 (.cons rfl .nil) q) fun r s' hq => ?_)
  cases r with
  | error e => exact hx pins σ H s e s' I hq
  | ok fl =>
    cases fl with
    | ret u =>
      obtain ⟨z, H', I', rz, n, ez, h0, h1, qz⟩ := I.after hq
      subst ez
      obtain ⟨tk, rfl⟩ := rz
      exact ⟨⟨h0, h1⟩, .int n, H', I'.tok _, ⟨_, rfl⟩, qz⟩
    | next => exact False.elim hq
    | brk => exact False.elim hq
    | cont => exact False.elim hq
theorem call_reprI {E : XK} {C f : Addr} {sp : Sp} (F : FnR X.prog X.w X.K X.mg X.base (L2N.CX X.prog X.w) k f sp) (hr : Room (k + 1) X.A) (hx : Passes (L2N.CX X.prog X.w) X E) (hs : PySem.W.findIn X.K (.ref C) "__repr__" = some (some (.ref f))) (hf : PySem.W.isFn X.K (.ref f) = true) :
    CallR X (.builtin "repr") (rReprI C sp E) := by
  intro pins s σ H xs us Q I r h
  obtain ⟨a, dx, fs, rfl, ha, q⟩ := h
  obtain ⟨u, rfl, rx⟩ := vals1 r
  cases rx
  obtain ⟨mA, J, _⟩ := ins_get I.hok ha
  obtain ⟨od, J, _⟩ := J.look
  obtain ⟨m, hF⟩ := I.fr
  refine PySem.W.repr_K hr.in1.units0 hF I.ok.mod.kin J hs hf ?_
  have e0 : Env0 X.prog X.w X.K X.mg X.base X.A.in1 X.stack s H := by
    have e := I.env0
    exact ⟨e.frames, e.mod, e.bs, e.bsz, e.funs, e.frf, e.hok, e.bare⟩
  refine wpAny_call (codeAny_mono (F X.A.in1 X.stack s H [.ref a] [.ref a] _ E hr.in1 e0 (.cons rfl .nil) q) fun r s' hq => ?_)
  cases r with
  | error e => exact hx pins σ H s e s' I hq
  | ok fl =>
    cases fl with
    | ret u =>
      obtain ⟨z, H', I', rz, y, ez, qz⟩ := I.after hq
      subst ez
      obtain ⟨tk, rfl⟩ := rz
      exact ⟨.str y, H', I', ⟨_, rfl⟩, qz⟩
    | next => exact False.elim hq
    | brk => exact False.elim hq
    | cont => exact False.elim hq
def lenR : R D → R D
  | .ok (.int n) w => if 0 ≤ n ∧ n < 2 ^ 63 then .ok (.int n) w else .bad
  | _ => .bad
def strR : R D → R D
  | .ok (.str z) w => .ok (.str z) w
  | _ => .bad
def eLenI (c : Str) (mm : List D → Bx → R D) (fa : EM) : EM := fun S w => (fa S w).bind fun d w1 => if isCls c d then lenR (mm [d] w1) else .bad
def eReprI (c : Str) (mm : List D → Bx → R D) (fa : EM) : EM := fun S w => (fa S w).bind fun d w1 => if isCls c d then strR (mm [d] w1) else .bad
theorem de_lenI {E : XK} (hK : g.K = X.K) (M : MthK X.prog X.w X.K X.mg X.base g.cls c "__len__" k 1 mm) (hr : Room (k + 1) X.A) (hx : Passes (L2N.CX X.prog X.w) X E) (hm : X.mg "len" = none) (ha : DE X g (kE E) a fa) (hg : Gl X "len" := by rfl)
    (he : starEach [a] X.env = (false, eval a X.env) :: starEach [] X.env := by rfl) (hpl : (backTo pos (starEach [] X.env)).any (·.1) = false := by rfl) : DE X g (kE E) (.Call (.Name "len" p) [a] [] pos) (eLenI c mm fa) := by
  obtain ⟨C, f, fd, ps, hc, _, me, F, bi⟩ := M.ex
  obtain ⟨ta, pa, ra⟩ := ha.run
  refine ⟨_, pe_callB (call_lenI (raw_spM (g := g) F bi) hr hx me.at_ me.fn) hg hm PySem.boot_len (pa_cons pa pa_nil he) (by decide) (by decide) he hpl, fun σ H Q F S w R h => ?_⟩
  refine ra σ H _ F S w R (PostG.imp (PostG.bind h) fun d w1 hd h1 v H1 F1 x1 r1 => ?_)
  by_cases hd : isCls c d = true
  · rw [if_pos hd] at h1
    obtain ⟨q, C', dx, vs, ev, hc', hq⟩ := r1.isCls hd
    obtain rfl : C' = C := Option.some.inj (hc'.symm.trans hc)
    subst ev
    refine ⟨q, dx, vs, rfl, x1.sub _ _ hq, ?_⟩
    rw [← hK]
    refine ⟨rfl, g.bq, F1, [d], w1, x1.sub, x1.bx, .cons r1 .nil, ?_⟩
    cases hmm : mm [d] w1 with
    | ok z w2 =>
      rw [hmm] at h1
      cases z with
      | int n =>
        simp only [lenR] at h1
        by_cases hn : 0 ≤ n ∧ n < 2 ^ 63
        · rw [if_pos hn] at h1
          intro v H' F' x r
          cases r
          exact ⟨n, rfl, hn.1, hn.2, h1 (.int n) H' F' (x1.trans x) (.int _)⟩
        · rw [if_neg hn] at h1; exact h1.elim
      | _ => exact h1.elim
    | _ => rw [hmm] at h1; exact h1.elim
  · rw [if_neg hd] at h1; exact h1.elim
theorem de_reprI {E : XK} (hK : g.K = X.K) (M : MthK X.prog X.w X.K X.mg X.base g.cls c "__repr__" k 1 mm) (hr : Room (k + 1) X.A) (hx : Passes (L2N.CX X.prog X.w) X E) (hm : X.mg "repr" = none) (ha : DE X g (kE E) a fa) (hg : Gl X "repr" := by rfl)
    (he : starEach [a] X.env = (false, eval a X.env) :: starEach [] X.env := by rfl) (hpl : (backTo pos (starEach [] X.env)).any (·.1) = false := by rfl) : DE X g (kE E) (.Call (.Name "repr" p) [a] [] pos) (eReprI c mm fa) := by
  obtain ⟨C, f, fd, ps, hc, _, me, F, bi⟩ := M.ex
  obtain ⟨ta, pa, ra⟩ := ha.run
  refine ⟨_, pe_callB (call_reprI (raw_spM (g := g) F bi) hr hx me.at_ me.fn) hg hm (by decide +kernel) (pa_cons pa pa_nil he) (by decide) (by decide) he hpl, fun σ H Q F S w R h => ?_⟩
  refine ra σ H _ F S w R (PostG.imp (PostG.bind h) fun d w1 hd h1 v H1 F1 x1 r1 => ?_)
  by_cases hd : isCls c d = true
  · rw [if_pos hd] at h1
    obtain ⟨q, C', dx, vs, ev, hc', hq⟩ := r1.isCls hd
    obtain rfl : C' = C := Option.some.inj (hc'.symm.trans hc)
    subst ev
    refine ⟨q, dx, vs, rfl, x1.sub _ _ hq, ?_⟩
    rw [← hK]
    refine ⟨rfl, g.bq, F1, [d], w1, x1.sub, x1.bx, .cons r1 .nil, ?_⟩
    cases hmm : mm [d] w1 with
    | ok z w2 =>
      rw [hmm] at h1
      cases z with
      | str n =>
        intro v H' F' x r
        cases r
        exact ⟨n, rfl, h1 (.str n) H' F' (x1.trans x) (.str _)⟩
      | _ => exact h1.elim
    | _ => rw [hmm] at h1; exact h1.elim
  · rw [if_neg hd] at h1; exact h1.elim
end
section
variable {S : SL} {w w1 w2 : Bx} {f : EM} {d : D} {fs : List EM} {acc y : Str} {r : R D} {c : Str} {mm : List D → Bx → R D} {n : Int}
theorem x_fstr (h : jsM fs Str.empty S w = r) : eJoin fs S w = r := h
theorem x_js0 : jsM [] acc S w = .ok (.str acc) w := rfl
theorem x_js (h : f S w = .ok (.str y) w1) (hl : (acc ++ y).length ≤ sizeN) (h2 : jsM fs (acc ++ y) S w1 = r) : jsM (f :: fs) acc S w = r := by
  show (f S w).bind _ = _
  rw [h]; show (if _ then _ else _) = _; rw [if_pos hl]; exact h2
theorem x_lenI (h : f S w = .ok d w1) (hc : isCls c d = true) (hm : mm [d] w1 = .ok (.int n) w2) (h0 : 0 ≤ n ∧ n < 2 ^ 63) : eLenI c mm f S w = .ok (.int n) w2 := by
  unfold eLenI; rw [h, R.bind_ok, if_pos hc, hm]; unfold lenR; simp only [if_pos h0]
theorem x_reprI {z : Str} (h : f S w = .ok d w1) (hc : isCls c d = true) (hm : mm [d] w1 = .ok (.str z) w2) : eReprI c mm f S w = .ok (.str z) w2 := by
  unfold eReprI; rw [h, R.bind_ok, if_pos hc, hm]; rfl
theorem g_ownN {fa fb : EM} {e : D} {w3 : Bx} {b : Bool} (ha : fa S w = .ok d w1) (hb : fb S w1 = .ok e w2) (hc : isCls c d = true) (he : isCls c e = true) (hm : mm [d, e] w2 = .ok (.bl b) w3) (h2 : notE b w3 = r) : eOwnN c mm fa fb S w = r := by
  unfold eOwnN; rw [ha, R.bind_ok, hb, R.bind_ok, hc, he, hm]; exact h2
end
end Y
/-! ### comprehensions of any depth, level by level -/
namespace Y
open PySem PySem.Spec PyProof.Rows L2
section
variable {P : Program} {w : World} {A : Around} {R : Result → Shared → Prop} {s : Shared} {tg elt : Expr} {gs : List Comprehension} {scope : Scope} {pos : Pos} {ip : Pos} {k : Nat} {B : Sem Fin → Sem Fin} {it acc : Value} {env : Env}
end
abbrev TB : Type := L2.St → Hp → (Hp → Prop) → Prop
section
variable {X : Cx}
end
end Y
/-! ### comprehensions level by level, as data -/
namespace Y
open PySem PySem.Spec PyProof.Rows L2
section
variable {X : Cx} {g : G} {E : EK}
end
end Y
/-! ### defs that hand back a new list, which their caller may change -/
namespace Y
open PySem PySem.Spec PyProof.Rows L2
def spMO (K : PySem.W.Frag) (cls : CT) (n : Nat) (m : List D → Bx → R (List D)) : Sp := fun vs H Q E => vs.length = n ∧ ∃ (bx : BQ) (F : FH) (ds : List D) (w : Bx),
  Same F H ∧ BxOk ⟨K, cls, bx⟩ F w H ∧ DRs ⟨K, cls, bx⟩ F vs ds ∧ PostO ⟨K, cls, bx⟩ F H Q E (m ds w)
def frzM (m : List D → Bx → R (List D)) : List D → Bx → R D := fun ds w => (m ds w).bind fun es w1 => .ok (.lst es) w1
theorem spM_frz {K : PySem.W.Frag} {cls : CT} {n : Nat} {m : List D → Bx → R (List D)} {vs : List V} {H : Hp} {Q : VK} {E : XK} (h : spM K cls n (frzM m) vs H Q E) : spMO K cls n m vs H Q E := by
  obtain ⟨hl, bx, F, ds, w, s, b, r, hp⟩ := h
  refine ⟨hl, bx, F, ds, w, s, b, r, ?_⟩
  unfold frzM at hp
  refine PostG.imp (PostG.bind hp) fun es w1 _ h1 p vs H' F' x np nF hp' rd => ?_
  have nb : p ≠ (⟨K, cls, bx⟩ : G).bx := not_box b np
  exact h1 (.ref p) H' _ (Ext.freeze x np nF hp' nb) (.lst upd_same (rd.mono (FSame.upd nF.1)))
section
variable {P : Program} {w : World} {K : PySem.W.Frag} {mg : Str → Option Value} {base : Heap} {cls : CT} {x c : Str} {k n : Nat} {m : List D → Bx → R (List D)}
theorem fnok_frz {f : Addr} {fd : FuncData} {ps : List Str} (h : FnOk P w K mg base (L2N.CX P w) k f fd ps (spMO K cls n m)) : FnOk P w K mg base (L2N.CX P w) k f fd ps (spM K cls n (frzM m)) := h.imp fun _ _ _ _ q => spM_frz q
structure MthO (P : Program) (w : World) (K : PySem.W.Frag) (mg : Str → Option Value) (base : Heap) (cls : CT) (c m : Str) (k n : Nat) (mm : List D → Bx → R (List D)) : Prop where
  ex : ∃ (C f : Addr) (fd : FuncData) (ps : List Str), cls c = some C ∧ Cls K C ∧ Meth K C m f ∧ FnOk P w K mg base (L2N.CX P w) k f fd ps (spMO K cls n mm) ∧ Binds K fd ps []
end
def oMeth (c m : Str) (n : Nat) (mm : List D → Bx → R (List D)) (fo : EM) (fs : AM) : AM := fun S w => (fo S w).bind fun d w1 => if isObj c m d then (fs S w1).bind fun ds w2 => if ds.length + 1 = n then mm (d :: ds) w2 else .bad else .bad
section
variable {X : Cx} {g : G} {E : EK} {e e2 a b c o : Expr} {es : List Expr} {pos p p2 apos : Pos} {fa fb f fo : EM} {fs ao : AM} {x cn mn : Str} {k n : Nat} {m : List D → Bx → R (List D)}
theorem methO_run {E : XK} {C : Addr} {ta : TE} {t : TA} (hK : g.K = X.K) (hc : g.cls cn = some C) (ro : ∀ σ H Q F S w, Rel g F w S σ H → Post g F H Q E (fo S w) → ta σ H Q) (ra : ∀ σ H Q F S w, Rel g F w S σ H → PostA g F H Q E (fs S w) → t σ H Q) :
    ∀ σ H Q F S w, Rel g F w S σ H → PostO g F H Q E (oMeth cn mn n m fo fs S w) → tMeth C mn (spMO X.K g.cls n m) [] E ta t σ H Q := by
  intro σ H Q F S w R h
  refine ro σ H _ F S w R (PostG.imp (PostG.bind h) fun d w1 hd h1 v H1 F1 x1 r1 => ?_)
  clear hd
  by_cases hd : isObj cn mn d = true
  · rw [if_pos hd] at h1
    obtain ⟨q, C', dx, vs, rfl, hc', hq, hl⟩ := r1.isObj hd
    obtain rfl : C' = C := Option.some.inj (hc'.symm.trans hc)
    refine ⟨q, dx, vs, rfl, x1.sub _ _ hq, hl, ra σ H1 _ F1 S w1 (R.ext x1) (PostG.ext x1 (PostG.bind h1) fun ds w2 h2 us H2 F2 x2 r2 => ?_)⟩
    by_cases hn : ds.length + 1 = n
    · rw [if_pos hn] at h2
      show spMO X.K g.cls n m (.ref q :: (us ++ [])) H2 Q E
      rw [List.append_nil, ← hK]
      exact ⟨by rw [List.length_cons, r2.length]; exact hn, g.bq, F2, d :: ds, w2, x2.sub, x2.bx, .cons (r1.mono x2.ff) r2, PostO.of (x1.trans x2) h2⟩
    · rw [if_neg hn] at h2; exact h2.elim
  · rw [if_neg hd] at h1; exact h1.elim
theorem do_meth0 {E : XK} (hK : g.K = X.K) (M : MthO X.prog X.w X.K X.mg X.base g.cls cn mn k n m) (hr : Room k X.A) (hx : Passes (L2N.CX X.prog X.w) X E) (ho : DE X g (kE E) o fo)
    (ht : ∀ (sp : Sp) (C f : Addr) (fd : FuncData) (ps : List Str) (ta : TE), Cls X.K C → Meth X.K C mn f → FnOk X.prog X.w X.K X.mg X.base (L2N.CX X.prog X.w) k f fd ps sp → Binds X.K fd ps [] → PE X o ta → Room k X.A → Passes (L2N.CX X.prog X.w) X E → PE X (.Call (.Attribute o mn apos) [] [] pos) (tMeth C mn sp [] E ta tNil) := by exact fun _ _ _ _ _ _ h1 h2 h3 h4 h5 hr hx => pe_meth0 h5 h1 h2 h3 hr h4 .nil hx) :
    DO X g (kE E) (.Call (.Attribute o mn apos) [] [] pos) (oMeth cn mn n m fo aNil) := by
  obtain ⟨C, f, fd, ps, hc, cl, hm, F, hb⟩ := M.ex
  obtain ⟨ta, pa, ra⟩ := ho.run
  exact ⟨_, ht _ C f fd ps ta cl hm F hb pa hr hx, methO_run hK hc ra fun σ H Q F S w R h => h [] H F R.ex .nil⟩
end
/-! a body that ends with such a return -/
inductive RO where
  | ok (ds : List D) (w : Bx) | err (S : SL) (c : Str) (fs : List (Str × D)) (w : Bx) | bad
abbrev SMO := SL → Bx → RO
def PostSO (g : G) (F0 : FH) (H0 : Hp) (B : FH) (E : EK) (N : Ends) : RO → Prop
  | .ok ds w => ∀ (p : Addr) (vs : List V) (H' : Hp) (F' : FH), Ext g F0 H0 F' H' w → H0 p = none → F'.free p → H' p = some (.lst vs) → DRs g F' vs ds → N.rt (.ref p) H'
  | .err S c fs w => ∀ (σ' : L2.St) (H' : Hp) (F' : FH), RelS g F0 H0 B F' w S σ' H' → ∀ (cl a : Addr) (vs : List (Str × V)), H0 a = none → g.cls c = some cl → H' a = some (.xd vs) → DRf g F' vs fs → E σ' (.ref cl) (some a) H'
  | .bad => False
structure DSsO (X : Cx) (g : G) (E : EK) (F0 : FH) (H0 : Hp) (st : List Stmt) (m : SMO) : Prop where
  run : ∃ t, PSs X st t ∧ ∀ (N : Ends) (σ : L2.St) (H : Hp) (F : FH) (S : SL) (w : Bx) (B : FH), RelS g F0 H0 B F w S σ H → PostSO g F0 H0 B E N (m S w) → t N σ H
def R.toO {α : Type} : R α → SL → (α → Bx → RO) → RO
  | .ok a w, _, k => k a w
  | .err c fs w, S, _ => .err S c fs w
  | .bad, _, _ => .bad
def oRet (f : AM) : SMO := fun S w => (f S w).toO S fun ds w1 => .ok ds w1
section
variable {X : Cx} {g : G} {E : EK} {F0 : FH} {H0 : Hp} {B : FH} {e a b c : Expr} {es : List Expr} {pos p p2 px apos : Pos} {fa fb f : EM} {fs ao : AM} {st : Stmt} {sts : List Stmt} {m : SM} {k : SMO} {N : Ends} {x : Str}
theorem PostSO.to {α : Type} {F : FH} {H : Hp} {w : Bx} {S : SL} {σ : L2.St} {r : R α} {k : α → Bx → RO} (R0 : RelS g F0 H0 B F w S σ H) (h : PostSO g F0 H0 B E N (r.toO S k)) : PostG g F H (E σ) (fun a w' => PostSO g F0 H0 B E N (k a w')) r := by
  cases r with
  | ok a w => exact h
  | err c fs w => exact fun cl x vs H' F' e n k l q => h σ H' F' (RelS.ext' R0 e) cl x vs (R0.ext.fresh n) k l q
  | bad => exact h
theorem dsso_ret (ha : DO X g E a fs) : DSsO X g E F0 H0 [.Return (some a) pos] (oRet fs) := by
  obtain ⟨t, p, r⟩ := ha.run
  refine ⟨_, pss_one (ps_ret p), fun N σ H F S w B R h => ?_⟩
  exact r σ H _ F S w R.rel (PostG.imp (PostSO.to R h) fun ds w1 _ h1 p vs H1 F1 x1 np nF hp rd => h1 p vs H1 F1 (R.ext.trans x1) (R.ext.fresh np) nF hp rd)
/-- f(..).append(e): the new list goes at once -/
def sAppT (fo : AM) (f : EM) : SM := fun S w => (fo S w).to S fun ds w1 => (f S w1).to S fun _ w2 => if ds.length < sizeN then .nx S w2 else .bad
theorem ds_appT (ho : DO X g E e ao) (ha : DE X g E a f)
    (hq : ∀ (to te : TE), PE X e to → PE X a te → PE X (.Call (.Attribute e "append" apos) [a] [] p) (tBM X.K "list" rAppend to (tCons te tNil)) := by exact fun _ _ h1 h2 => pe_bm PySem.F.plainAttrs_list PySem.F.slot_list_append PySem.F.type_list_append mt_append h1 (pa_cons h2 pa_nil))
    (hs : swapsWith (.Call (.Attribute e "append" apos) [a] [] p) none pos.line X.env = pure false := by rfl) :
    DS X g E F0 H0 (.Expr (.Call (.Attribute e "append" apos) [a] [] p) pos) (sAppT ao f) := by
  obtain ⟨to, po, ro⟩ := ho.run
  obtain ⟨t, pa, r⟩ := ha.run
  refine ⟨_, ps_expr (hq _ _ po pa) hs, fun N σ H F S w B R h => ?_⟩
  refine ro σ H _ F S w R.rel (PostG.imp (PostS.to R h) fun ds w1 _ h1 q vs H1 F1 x1 nq nF hp rd => ?_)
  have R1 := R.ext' x1
  have nb : q ≠ g.bx := not_box R.rel.bx nq
  refine ⟨.inl ⟨rfl, vs, .inl (.inl hp)⟩, r σ H1 _ F1 S w1 R1.rel (PostG.imp (PostS.to R1 h1) fun d w2 _ h2 v H2 F2 x2 r2 => ?_)⟩
  by_cases hl : ds.length < sizeN
  · rw [if_pos hl] at h2
    have hp2 : H2 q = some (.lst vs) := x2.hh q _ nb nF.2 (fun _ z => by cases z) hp
    exact ⟨q, vs, v, rfl, rfl, hp2, by rw [rd.length]; exact hl, h2 σ _ F2 (R.ext' (Ext.mut (x1.trans x2) nq (x2.free nF hp) nb hp2 (.inl ⟨_, rfl⟩)))⟩
  · rw [if_neg hl] at h2; exact h2.elim
end
/-! a def by its body -/
def runFO (k n : Nat) (body : SMO) : List D → Bx → R (List D) := fun ds w => if ds.length = k then (match body (startS n ds) w with
  | .ok es w1 => .ok es w1
  | .err _ c fs w1 => .err c fs w1
  | .bad => .bad) else .bad
section
variable {P : Program} {w : World} {K : PySem.W.Frag} {mg : Str → Option Value} {base : Heap} {cls : CT}
theorem fnok_ofO {x qual : Str} {st : Stmt} {f : Addr} {fd : FuncData} {N ps : List Str} {k : Nat} {body : SMO} (F : Fun K x qual st f fd) (S : FnScope N ps (defScope st))
    (hbody : ∀ (cdv : Value), CodeIs K f cdv → ∀ (A : Around) (outer : List Env) (s : Shared) (H : Hp) (E : XK) (bx : BQ) (F0 : FH), Room k (A.deeper (envOfC qual (defScope st) s.heap.objs.size f cdv)) →
      DSsO (cxOf (L2N.CX P w) P w K mg base N qual (defScope st) f cdv A outer s H E) ⟨K, cls, bx⟩ (kE E) F0 H (defBody st) body) : FnOk P w K mg base (L2N.CX P w) (k + 1) f fd ps (spMO K cls ps.length (runFO ps.length N.length body)) := by
  refine okC F S (fun vs H Q E h => h.1) (fun cdv hcv A outer s H vs Q E hr h => ?_)
  obtain ⟨hl, bx, F0, ds, w0, s1, b1, rd, hp⟩ := h
  obtain ⟨t, pt, rt⟩ := (hbody cdv hcv A outer s H E bx F0 hr).run
  refine ⟨t, pt, rt _ (start N vs) H F0 (startS N.length ds) w0 F0 (rel_start s1 b1 rd) ?_⟩
  unfold runFO at hp
  rw [if_pos (by rw [← rd.length]; exact hl)] at hp
  cases hbd : body (startS N.length ds) w0 with
  | ok es w1 => simp only [hbd] at hp; exact hp
  | err S1 c fs w1 => simp only [hbd] at hp; exact fun σ' H' F' R' cl a vs n k l r => hp cl a vs H' F' R'.ext n k l r
  | bad => simp only [hbd] at hp; exact hp
end
end Y
/-! ### where a thing stands in a list; a text cut at a text -/
namespace Y
open PySem PySem.Spec PyProof.Rows L2
section
variable {X : Cx} {g : G} {E : EK} {e a b c : Expr} {es : List Expr} {pos p apos : Pos} {fa fb f : EM}
end
end Y
/-! ### what leaves the cells alone -/
namespace Y
open PySem PySem.Spec PyProof.Rows L2
def Sr {α : Type} (s : List Cell) : R α → Prop
  | .ok _ w => w.st = s
  | .err _ _ w => w.st = s
  | .bad => True
def Ss (s : List Cell) : RS → Prop
  | .nx _ w => w.st = s
  | .rt _ w => w.st = s
  | .bk _ w => w.st = s
  | .ct _ w => w.st = s
  | .err _ _ _ w => w.st = s
  | .bad => True
/-- an expression, a test, a list of arguments; a statement; a def: none turns a cell -/
def KF {α : Type} (f : SL → Bx → R α) : Prop := ∀ S w, Sr w.st (f S w)
def KS (m : SM) : Prop := ∀ S w, Ss w.st (m S w)
def KM {α : Type} (m : List D → Bx → R α) : Prop := ∀ ds w, Sr w.st (m ds w)
section
variable {α β : Type} {s : List Cell} {f fa fb fc : EM} {fs fi : AM} {t ta tb : TM} {m k body : SM} {mm : List D → Bx → R D} {gm : GM} {tm : TM} {em : EM} {i j l n : Nat} {c : Str}
theorem KF.at {f : SL → Bx → R α} (h : KF f) {S : SL} {w : Bx} (e : w.st = s) : Sr s (f S w) := by rw [← e]; exact h S w
theorem KS.at (h : KS m) {S : SL} {w : Bx} (e : w.st = s) : Ss s (m S w) := by rw [← e]; exact h S w
theorem KM.at {mm : List D → Bx → R α} (h : KM mm) {ds : List D} {w : Bx} (e : w.st = s) : Sr s (mm ds w) := by rw [← e]; exact h ds w
/-- what it is for -/
theorem KM.of {ds : List D} {w w' : Bx} {d : D} (h : KM mm) (e : mm ds w = .ok d w') : w'.st = w.st := by have q := h ds w; rw [e] at q; exact q
end
/-! steps for the forms of Y47, Y48 -/
section
variable {S S1 S2 : SL} {w w1 w2 w3 : Bx} {f fa fb fo : EM} {fs ao : AM} {d e z : D} {ds es : List D} {i n : Nat} {c m : Str} {b : Bool} {t : TM} {mO : List D → Bx → R (List D)}
theorem frz_ok (h : mO ds w = .ok es w1) : frzM mO ds w = .ok (.lst es) w1 := by unfold frzM; rw [h]; rfl
theorem x_oMeth {r : R (List D)} (ha : fo S w = .ok d w1) (ho : isObj c m d = true) (hb : fs S w1 = .ok ds w2) (hn : ds.length + 1 = n) (hm : mO (d :: ds) w2 = r) : oMeth c m n mO fo fs S w = r := by
  unfold oMeth; rw [ha, R.bind_ok, if_pos ho, hb, R.bind_ok, if_pos hn]; exact hm
theorem x_appT (ha : ao S w = .ok ds w1) (hb : f S w1 = .ok d w2) (hl : ds.length < 16777216) : sAppT ao f S w = .nx S w2 := by
  unfold sAppT; rw [ha]; show (f S w1).to S _ = _; rw [hb]; show (if _ then _ else _) = _; rw [if_pos (show ds.length < sizeN from hl)]
theorem x_runFO {k N : Nat} {body : SMO} (hl : ds.length = k) (h : body (startS N ds) w = .ok es w1) : runFO k N body ds w = .ok es w1 := by
  unfold runFO; rw [if_pos hl, h]
theorem x_oRet (h : fs S w = .ok ds w1) : oRet fs S w = .ok ds w1 := by unfold oRet; rw [h]; rfl
end
end Y
/-! ### texts of any signs; loops that find -/
namespace Y
open PySem PySem.Spec PyProof.Rows L2
end Y
/-! ### cells: what may change -/
namespace Y
open PySem PySem.Spec PyProof.Rows L2
section
variable {g : G} {F F1 F2 : FH} {H H1 H2 : Hp} {w w1 w2 : Bx}
/-- a cell, looked up -/
theorem DR.cell {v : V} {i : Nat} {c : Cell} (r : DR g F v (.cel i)) (b : BxOk g F w H) (h : w.st[i]? = some c) : ∃ a, v = .ref a ∧ F.ad i = some a ∧ CellOk g F H a c := by
  cases r with
  | cel ha =>
    obtain ⟨a', e1, _, _, e4⟩ := b.cel i c h
    rw [ha] at e1; cases e1
    exact ⟨_, rfl, ha, e4⟩
end
end Y
/-! ### what is done with cells -/
namespace Y
open PySem PySem.Spec PyProof.Rows L2
/-! dicts as data -/
abbrev DKV := List (Key × D)
def kGet (kvs : DKV) (k : Key) : Option D := (kvs.find? fun kv => decide (kv.1 = k)).map (·.2)
def kPut (kvs : DKV) (k : Key) (v : D) : DKV := if (kvs.any fun kv => decide (kv.1 = k)) = true then kvs.map (fun kv => if kv.1 = k then (kv.1, v) else kv) else kvs ++ [(k, v)]
def kDrop (kvs : DKV) (k : Key) : DKV := kvs.filter fun kv => decide (kv.1 ≠ k)
section
variable {g : G} {F : FH}
theorem DRk.length : ∀ {xs : List (Key × V)} {ds : DKV}, DRk g F xs ds → xs.length = ds.length
  | _, _, .nil => rfl
  | _, _, .cons _ t => congrArg (· + 1) t.length
theorem DRk.app : ∀ {xs ys : List (Key × V)} {ds es : DKV}, DRk g F xs ds → DRk g F ys es → DRk g F (xs ++ ys) (ds ++ es)
  | _, _, _, _, .nil, h => h
  | _, _, _, _, .cons r t, h => .cons r (t.app h)
theorem DRk.any {k : Key} : ∀ {xs : List (Key × V)} {ds : DKV}, DRk g F xs ds → (xs.any fun kv => decide (kv.1 = k)) = ds.any fun kv => decide (kv.1 = k)
  | _, _, .nil => rfl
  | _, _, .cons _ t => by rw [List.any_cons, List.any_cons, t.any]
theorem DRk.repl {k : Key} {v : V} {d : D} (r : DR g F v d) : ∀ {xs : List (Key × V)} {ds : DKV}, DRk g F xs ds → DRk g F (xs.map fun kv => if kv.1 = k then (kv.1, v) else kv) (ds.map fun kv => if kv.1 = k then (kv.1, d) else kv)
  | _, _, .nil => .nil
  | _, _, .cons (n := n) q t => by
    rw [List.map_cons, List.map_cons]
    by_cases e : n = k
    · simp only [if_pos e]; exact .cons r (t.repl r)
    · simp only [if_neg e]; exact .cons q (t.repl r)
theorem DRk.put {k : Key} {v : V} {d : D} {xs : List (Key × V)} {ds : DKV} (t : DRk g F xs ds) (r : DR g F v d) : DRk g F (putK xs k v) (kPut ds k d) := by
  unfold putK kPut
  rw [t.any]
  split
  · exact t.repl r
  · exact t.app (.cons r .nil)
theorem DRk.drop {k : Key} : ∀ {xs : List (Key × V)} {ds : DKV}, DRk g F xs ds → DRk g F (L2.dropK xs k) (kDrop ds k)
  | _, _, .nil => .nil
  | _, _, .cons (n := n) q t => by
    unfold L2.dropK kDrop
    rw [List.filter_cons, List.filter_cons]
    by_cases e : n = k
    · simp only [e, ne_eq, not_true_eq_false, decide_false, Bool.false_eq_true, if_false]; exact t.drop
    · simp only [ne_eq, e, not_false_eq_true, decide_true, if_true]; exact .cons q t.drop
theorem DRk.get {k : Key} {xs : List (Key × V)} {ds : DKV} {d : D} (t : DRk g F xs ds) (h : kGet ds k = some d) : ∃ v, valV xs k = some v ∧ DR g F v d := by
  rcases t.val k with ⟨v, e, h1, h2, h3⟩ | ⟨h1, h2⟩
  · have h2 : kGet ds k = some e := h2
    rw [h] at h2; cases h2; exact ⟨v, h1, h3⟩
  · have h2 : kGet ds k = none := h2
    rw [h] at h2; cases h2
theorem DRk.noneV {k : Key} {xs : List (Key × V)} {ds : DKV} (t : DRk g F xs ds) (h : kGet ds k = none) : valV xs k = none := by
  rcases t.val k with ⟨v, e, h1, h2, h3⟩ | ⟨h1, h2⟩
  · have h2 : kGet ds k = some e := h2
    rw [h] at h2; cases h2
  · exact h1
end
/-! what a container is: a list, or a dict; frozen or a cell -/
def objAt (w : Bx) (c : Str) : D → Option (List (Str × D))
  | .cel i => match w.st[i]? with
    | some (.obj c' fs) => if c' = c then some fs else none
    | _ => none
  | _ => none
section
variable {g : G} {F : FH} {H : Hp} {w : Bx} {v : V} {d : D}
end
section
variable {X : Cx} {g : G} {E : EK} {F0 : FH} {H0 : Hp} {e a b o : Expr} {es : List Expr} {pos p apos tpos : Pos} {f fa fb fo fi : EM} {fs fl : AM} {c m : Str} {k n : Nat} {mm : List D → Bx → R D}
/-! new dicts -/
/-! reads -/
end
end Y
/-! ### cells that turn: lists, dicts, the fields of objects -/
namespace Y
open PySem PySem.Spec PyProof.Rows L2
abbrev Bx.put (w : Bx) (i : Nat) (c : Cell) : Bx := { w with st := w.st.set i c }
section
variable {g : G} {F : FH} {H : Hp} {w : Bx} {v : V} {d : D}
end
section
variable {X : Cx} {g : G} {E : EK} {F0 : FH} {H0 : Hp} {e a b o : Expr} {es : List Expr} {pos p apos tpos : Pos} {f fa fb fo fi fv : EM} {fs fl : AM} {c m : Str} {k n : Nat} {mm : List D → Bx → R D}
/-! fields -/
def fldAt (w : Bx) (c f : Str) (d : D) : Option D := (objAt w c d).bind fun fs => fs.lookup f
/-! len -/
/-! list(x) -/
/-! append, pop -/
/-! dicts -/
theorem DRk.isSome {F : FH} {k : Key} {xs : List (Key × V)} {ds : DKV} (t : DRk g F xs ds) : (valV xs k).isSome = (kGet ds k).isSome := by
  cases h : kGet ds k with
  | none => rw [t.noneV h]; rfl
  | some d => obtain ⟨v, e, _⟩ := t.get h; rw [e]; rfl
end
end Y
/-! ### methods and properties of objects that are cells -/
namespace Y
open PySem PySem.Spec PyProof.Rows L2
def isClsC (w : Bx) (c : Str) (d : D) : Bool := (objAt w c d).isSome
section
variable {g : G} {F : FH} {H : Hp} {w : Bx} {v : V} {d : D}
end
section
variable {X : Cx} {g : G} {E : EK} {e e2 a b o : Expr} {es : List Expr} {pos p p2 apos : Pos} {fa fb fo f : EM} {fs : AM} {x c m : Str} {k n : Nat} {mm : List D → Bx → R D} {mo : List D → Bx → R (List D)}
end
end Y
/-! ### defs with defaults; classes whose new object is a cell -/
namespace Y
open PySem PySem.Spec PyProof.Rows L2
section
variable {T : Tell} {w : World} {h : Heap} {K : Fr}
end
/-! ### __init__ with defaults -/
section
variable {P : Program} {w : World} {K : PySem.W.Frag} {mg : Str → Option Value} {base : Heap} {cls : CT}
/-- all that a class's own __init__ does, its parameters ps behind self -/
structure IniD (P : Program) (w : World) (K : PySem.W.Frag) (mg : Str → Option Value) (base : Heap) (cls : CT) (c : Str) (ps : List Str) (qual : Str) (st : Stmt) (dvs : List V) (kws : List (Str × V)) (k : Nat) (m : List D → Bx → R (List (Str × D))) : Prop where
  ex : ∃ (C f : Addr) (fd : FuncData), mg c = some (.ref C) ∧ cls c = some C ∧ Mk K C f ∧ FunD K "__init__" qual (defArgs st) (defBody st) (defScope st) dvs kws f fd ∧ FnOk P w K mg base (L2N.CX P w) k f fd ps (spI K cls c (nEq (ps.length - 1)) m)
theorem DRs.closed {dv : List V} {dd : List D} (h : ∀ (g : G) (F : FH), DRs g F dv dd) {g : G} {F : FH} {vs : List V} {ds : List D} (r : DRs g F vs ds) : DRs g F (vs ++ dv) (ds ++ dd) := r.append (h g F)
/-- n arguments are written, the others take their defaults -/
theorem IniD.to {c qual : Str} {st : Stmt} {dvs : List V} {kws : List (Str × V)} {ps : List Str} {k : Nat} {m : List D → Bx → R (List (Str × D))} (I : IniD P w K mg base cls c ps qual st dvs kws k m) (n : Nat) (dv : List V) (dd : List D) (hr : ∀ (g : G) (F : FH), DRs g F dv dd) (hn : n + dv.length = ps.length - 1)
    (hb : ∀ {f : Addr} {fd : FuncData}, FunD K "__init__" qual (defArgs st) (defBody st) (defScope st) dvs kws f fd → ∃ us, Vals dv us ∧ Binds K fd ps us) : IniK P w K mg base cls c k (nEq n) (fun ds w => m (ds ++ dd) w) := by
  obtain ⟨C, f, fd, h1, h2, M, F, G⟩ := I.ex
  obtain ⟨us, hv, hbi⟩ := hb F
  refine ⟨C, f, h1, h2, M, (G.raw hbi hv).imp fun vs H Q E h => ?_⟩
  obtain ⟨x, dx, C', args, H0, bx, F0, ds, w0, rfl, hl, hc, nx, nd, ne, rfl, s, bo, rd, hp⟩ := h
  exact ⟨x, dx, C', args ++ dv, H0, bx, F0, ds ++ dd, w0, rfl, beq_iff_eq.mpr (by rw [List.length_append, beq_iff_eq.mp hl]; exact hn), hc, nx, nd, ne, rfl, s, bo, rd.closed hr, hp⟩
end
/-! ### a new object that is a cell -/
section
variable {X : Cx} {g : G} {E : EK} {e a b o : Expr} {es : List Expr} {pos p p2 kpos : Pos} {fs fk : AM} {x c : Str} {nm : Option Str} {kws : List Keyword} {fe : EM} {k : Nat} {n : Nat → Bool} {m : List D → Bx → R (List (Str × D))}
end
end Y
/-! ### sorted, isinstance of a cell, a list of lambdas that gets one more -/
namespace Y
open PySem PySem.Spec PyProof.Rows L2
/-! texts in order -/
section
variable {X : Cx} {g : G} {E : EK} {F0 : FH} {H0 : Hp} {B : FH} {e a b o : Expr} {es : List Expr} {pos p apos : Pos} {f fa fb fo : EM} {c : Str} {tb : List (Str × Bool)} {m : SM}
/-! isinstance -/
/-! asks = [lambda: .., ..]; asks.append(lambda: ..) -/
theorem lamsOk_app {g : G} {F : FH} {H : Hp} : ∀ {vs us : List V} {ls ks : List LamI}, LamsOk g F H vs ls → LamsOk g F H us ks → LamsOk g F H (vs ++ us) (ls ++ ks)
  | _, _, _, _, .nil, h => h
  | _, _, _, _, .cons hf hd nb na hc r, h => .cons hf hd nb na hc (lamsOk_app r h)
theorem LamsOk.mut {g : G} {F : FH} {H : Hp} {q : Addr} {vs xs : List V} {o : HO} {ls : List LamI} (h : LamsOk g F H vs ls) (hq : H q = some (.lst xs)) : LamsOk g F (L2.upd H q o) vs ls := h.upd hq fun _ z => by cases z
def sLamA (i : Nat) (ls : List LamI) : SM := fun S w => if ls.length ≤ 1000 ∧ i < S.length then .nx (S.set i (some (.lam ls))) w else .bad
theorem dss_lamsA (i : Nat) {x : Str} {es : List Expr} {le : Expr} {ls ls1 : List LamI} {l2 : LamI} {p p2 p3 p4 p5 p6 pos : Pos} {rest : List Stmt} (hls : ls = ls1 ++ [l2]) (hcl : g.cl = X.env.cells) (he : LamEs X g.cls.tb es ls1) (he2 : LamEs X g.cls.tb [le] [l2]) (hN : X.N.Nodup) (hr : DSs X g E F0 H0 rest m) (hi : X.N[i]? = some x := by rfl) (hx : Loc X.env.scope x := by first | exact Or.inl rfl | exact Or.inr rfl) (hs : swapsWith (.List es p) (some (.Name x p2)) pos.line X.env = pure false := by rfl)
    (hf : X.fn x = true ∨ X.env.scope.names.lookup x = some .local := by first | exact .inl rfl | exact .inr rfl)
    (hv : Vis X.env.scope x := by first | exact Or.inl rfl | exact Or.inr (Or.inl rfl) | exact Or.inr (Or.inr rfl)) (hd : (x == ("__debug__" : Str)) = false := by decide) (hcd : (x == ("__classdict__" : Str)) = false := by decide)
    (hq : ∀ (to : TE) (te : TA), PE X (.Name x p3) to → PA X [le] te → PE X (.Call (.Attribute (.Name x p3) "append" p4) [le] [] p5) (tBM X.K "list" rAppend to te) := by exact fun _ _ h1 h2 => pe_bm PySem.F.plainAttrs_list PySem.F.slot_list_append PySem.F.type_list_append mt_append h1 h2)
    (hs2 : swapsWith (.Call (.Attribute (.Name x p3) "append" p4) [le] [] p5) none p6.line X.env = pure false := by rfl) :
    DSs X g E F0 H0 (.Assign [.Name x p2] (.List es p) pos :: .Expr (.Call (.Attribute (.Name x p3) "append" p4) [le] [] p5) p6 :: rest) (sSeq (sLamA i ls) m) := by
  subst hls
  obtain ⟨tr, pr, rr⟩ := hr.run
  refine ⟨_, pss_cons (ps_set hN hi hx (pe_lst (pa_lams he)) hs hf) (pss_cons (ps_expr (hq _ _ (pe_var hi hv hd hcd) (pa_lams he2)) hs2) pr), fun N σ H F S w B R h => ?_⟩
  unfold sSeq sLamA at h
  by_cases hl : (ls1 ++ [l2]).length ≤ 1000 ∧ i < S.length
  · rw [if_pos hl] at h
    obtain ⟨hl, hsz⟩ := hl
    have l1 : ls1.length ≤ 1000 := by rw [List.length_append] at hl; omega
    show tLams g.cls.tb X.env.cells ls1 σ H _
    rw [← hcl]
    refine lams_run ls1 R.rel.sub R.rel.bx fun vs H' F' x' ok => ⟨?_, fun q nq => ?_⟩
    · rw [ok.len, ← sizeN_line]; show ls1.length ≤ 16777216; omega
    · have x2 := Ext.own (o := .lst vs) x'.sub x'.bx nq
      have x12 := x'.trans x2
      have nF := free_of x'.sub x'.bx nq
      have nb := not_box x'.bx nq
      refine ⟨.ref q, by rw [List.getElem?_set, if_pos rfl, if_pos (R.rel.len ▸ hsz)], .inl ⟨rfl, vs, .inl (.inl upd_same)⟩, ?_⟩
      show tLams g.cls.tb g.cl [l2] _ _ _
      refine lams_run [l2] x2.sub x2.bx fun us H3 F3 x3 ok3 => ?_
      have x13 := x12.trans x3
      have hq3 : H3 q = some (.lst vs) := x3.hh q _ nb nF.2 (fun _ z => by cases z) upd_same
      have nF3 := x3.free nF upd_same
      have ok1 : LamsOk g F3 H3 vs ls1 := (ok.ext x2).ext x3
      have nq0 : H q = none := x'.fresh nq
      have x4 := Ext.mut (o := .lst (vs ++ us)) x13 nq0 nF3 nb hq3 (.inl ⟨_, rfl⟩)
      have x5 := Ext.freeze x4 nq0 nF3 upd_same nb
      have okA := (lamsOk_app ok1 ok3).mut (o := .lst (vs ++ us)) hq3
      have hR : RelS g F0 H0 B (F3.upd q (.lst (vs ++ us))) w (S.set i (some (.lam (ls1 ++ [l2])))) (σ.set i (some (.ref q))) (upd H3 q (.lst (vs ++ us))) := (R.ext' x5).setL i ⟨q, _, rfl, upd_same, okA.keep (FSame.upd (F := F3) nF3.1).fz fun a z nb na hc => ⟨hc, na⟩⟩
      have hlen : vs.length < sizeLine := by rw [ok.len, ← sizeN_line]; show ls1.length < 16777216; omega
      have hus := ok3.len
      match us, hus, hR with
      | [u], _, hR => exact ⟨q, vs, u, rfl, rfl, hq3, hlen, rr N _ _ _ _ w B hR h⟩
  · rw [if_neg hl] at h; exact h.elim
end
def lamsOfA (q : Str) : Stmt → List LamI
  | .Expr (.Call _ (.Lambda p b s _ :: _) _ _) _ => [⟨q, p, b, s⟩]
  | _ => []
/-! a < b < c, as a test -/
section
variable {X : Cx} {g : G} {E : EK} {a b c : Expr} {pos : Pos} {fa fb fc : EM}
end
end Y
/-! ### for within a generator -/
namespace Y
open PySem PySem.Spec PyProof.Rows L2 GenW
section
variable {M : Model} {A : Around} {R : GenEnd} {Y : Protocol} {n : Nat} {s₀ : Shared} {c : Code} {fs : List Frame} {s : Shared} {env : Env}
  {K : Flow → Sem PySem.Fin} {J : Value → Sem PySem.Fin} {gd : Bool → Bool} {lv : List Value → List Value}
end
section
variable {prog : Program} {w : World} {A : Around} {R : GenEnd} {Y : Protocol} {n : Nat} {s₀ : Shared} {fs : List Frame} {s : Shared} {env : Env}
end
section
variable {X : Cx} {tg iter : Expr} {body : List Stmt} {pos : Pos} {wi : TI} {g : TG} {tb : TGn}
theorem GI.unpinned {S : Addr} {ip pl : List (Addr × Obj)} {ys : List V} {σ : L2.St} {H : Hp} {s : Shared} (h : GI X S (ip ++ pl) ys σ H s) : GI X S ip ys σ H s := by
  obtain ⟨acc, c, r, I⟩ := h
  exact ⟨acc, c, r, I.pins_of fun p hp => I.pin p (List.mem_append_right _ (by
    rcases List.mem_cons.mp hp with z | z
    · rw [z]; exact List.mem_cons_self
    · exact List.mem_cons_of_mem _ (List.mem_append_left _ z)))⟩
end
end Y
/-! ### a generator's body over data; list(o.m()) of a generator method -/
namespace Y
open PySem PySem.Spec PyProof.Rows L2 GenW
inductive RG where
  | nx (S : SL) (w : Bx) (ys : List D) | bk (S : SL) (w : Bx) (ys : List D) | ct (S : SL) (w : Bx) (ys : List D) | bad
abbrev SG := List D → SL → Bx → RG
section
variable {X : Cx} {g : G} {F0 : FH} {H0 : Hp} {e tg iter : Expr} {pos yp : Pos} {st : Stmt} {sts body : List Stmt} {m : SM} {mg mg2 : SG} {f : EM} {fi : AM} {gm : GM} {ns : List Nat} {tm : TM}
end
/-! a generator def -/
section
variable {P : Program} {w : World} {K : PySem.W.Frag} {mg : Str → Option Value} {base : Heap} {cls : CT}
end
section
variable {X : Cx} {g : G} {E : EK} {o : Expr} {pos pos' p apos : Pos} {fo : EM} {c m : Str} {k : Nat} {mo : List D → Bx → R (List D)}
end
end Y
/-! ### try: .. except (A, B): suite; raise finally: .. -/
namespace Y
open PySem PySem.Spec PyProof.Rows L2
section
variable {X : Cx} {body : List Stmt} {b₀ f₀ : Stmt} {fin : List Stmt} {t : Expr} {cs : List Value} {pos hp rp : Pos} {tb : WX → TS} {ts tf tfs : TS} {Wout : WX}
end
end Y
/-! ### methods called where an exception is handled; try with a suite that lets it go on -/
namespace Y
open PySem PySem.Spec PyProof.Rows L2
open L2H (RoomH roomH_of)
/-! ### a tuple unpacked where an exception is handled -/
section
variable {prog : Program} {w : World} {A : Around} {E : Value → Shared → Prop} {s : Shared}
end
section
variable {P : Program} {w : World} {K : PySem.W.Frag} {mg : Str → Option Value} {base : Heap} {cls : CT}
end
section
variable {X : Cx} {g : G} {e o : Expr} {es : List Expr} {pos apos : Pos} {fo : EM} {fs : AM} {c m : Str} {k n : Nat} {mm : List D → Bx → R D} {C f : Addr} {fd : FuncData} {ps : List Str} {sp : Sp} {E : XK} {ta : TE} {t : TA}
end
/-! ### try: .. except (A, B): suite; raise finally: .. -/
section
variable {X : Cx} {g : G} {E : EK} {F0 : FH} {H0 : Hp} {body fin : List Stmt} {b₀ f₀ : Stmt} {mb ms mf : SM} {t : Expr} {cs : List Value} {L : List Str} {pos hp rp : Pos}
theorem DS.ps (h : ∀ F0 H0, DS X g E F0 H0 b₀ ms) : PS X b₀ fun N σ H => ∃ F0 H0 F S w B, RelS g F0 H0 B F w S σ H ∧ PostS g F0 H0 B E N (ms S w) := ⟨fun pins s σ H N I ⟨F0, H0, F, S, w, B, R, q⟩ => by
  obtain ⟨t, p, r⟩ := (h F0 H0).run
  exact p.run pins s σ H N I (r N σ H F S w B R q)⟩
end
end Y
/-! ### methods with *args; for over a dict that is a cell -/
namespace Y
open PySem PySem.Spec PyProof.Rows L2
/-! o.m(e, ..) where m takes a star -/
section
variable {P : Program} {w : World} {K : PySem.W.Frag} {mg : Str → Option Value} {base : Heap} {cls : CT}
end
section
variable {X : Cx} {g : G} {e o : Expr} {es : List Expr} {pos apos : Pos} {fo : EM} {fs : AM} {c m : Str} {k : Nat} {n : Nat → Bool} {mm : List D → Bx → R D} {E : XK}
end
/-! ### for k in d -/
section
variable {X : Cx} {g : G} {E : EK} {F0 : FH} {H0 : Hp} {body : List Stmt} {m : SM} {pos p : Pos} {gm : GM} {ns : List Nat} {tg : Expr}
end
end Y
/-! ### dicts of the module with numbers; what the head tells of the new forms -/
namespace Y
open PySem PySem.Spec PyProof.Rows L2
section
variable {X : Cx} {g : G} {E : EK} {x : Str} {t : List (Str × Int)} {b : Expr} {fb : EM} {p pos : Pos}
end
end Y
/-! ### what the head tells of the new forms; calls whose errors are wished for at the slots -/
namespace Y
open PySem PySem.Spec PyProof.Rows L2
open L2H (RoomH roomH_of)
section
variable {X : Cx} {g : G} {E : EK} {x : Str} {t : List (Str × Int)} {b : Expr} {fb : EM} {p pos : Pos}
end
/-! a method whose errors are wished for at the slots -/
section
variable {X : Cx} {g : G} {E : EK} {e o : Expr} {es : List Expr} {pos apos : Pos} {fo : EM} {fs : AM} {c m : Str} {k n : Nat} {mm : List D → Bx → R D} {C f : Addr} {fd : FuncData} {ps : List Str} {sp : Sp} {ta : TE} {t : TA}
theorem RoomH.mark {k : Nat} {A : Around} {v : Option Value} (r : RoomH k A) : RoomH k (A.mark v) := ⟨r.dp, r.un⟩
end
/-! the names of an except clause -/
section
variable {X : Cx} {g : G} {E : EK} {F0 : FH} {H0 : Hp} {body fin : List Stmt} {b₀ f₀ : Stmt} {mb ms mf : SM} {es : List Expr} {xs L : List Str} {pos hp rp tpos : Pos} {k : Nat}
end
/-! heads -/
section
variable {T : Tell} {w : World} {h : Heap} {K : Fr}
theorem oexGB_ok {nw : String} {tl : List Value} {C : Addr} (e : oexGB nw tl K C = true) : ∃ nm q N bs bm sn sub ab col dd k0 k1 k2 k3 k5, K.lookup C = some (excClassObj nm q C N bs bm true sn sub ab col dd k0 k1 k2 k3 k5 nw) ∧ refsT tl bm = true := by
  unfold oexGB at e
  split at e
  · rename_i t dd cd sl hq
    obtain ⟨e1, e⟩ := He.ba e
    obtain ⟨e2, e⟩ := He.ba e
    obtain ⟨e3, e⟩ := He.ba e
    obtain ⟨e4, e5⟩ := He.ba e
    obtain ⟨c1, c2, c3, c4, c5, c6, c7, c8, c9, c10, c11⟩ := cd
    dsimp only at e2 e3 e4
    subst e2
    have e3 : c11 = false := by cases c11 <;> first | rfl | cases e3
    subst e3
    have e1 := of_decide_eq_true e1
    subst e1
    split at e4
    · rename_i C' bm
      obtain ⟨f1, f2⟩ := He.ba e4
      have f1 := of_decide_eq_true f1
      subst f1
      split at e5
      · rename_i k0 k1 k2 k3 n k5 hs
        have e5 := of_decide_eq_true e5
        subst e5
        obtain ⟨sl⟩ := sl
        have hs : sl = _ := hs
        subst hs
        exact ⟨_, _, _, _, _, _, _, _, _, _, _, _, _, _, _, hq, f2⟩
      · cases e5
    · cases e4
  · cases e
end
end Y
/-! ### tests: a key in a dict -/
namespace Y
open PySem PySem.Spec PyProof.Rows L2
section
variable {X : Cx} {g : G} {E : EK} {x : Str} {t : List (Str × Int)} {a b : Expr} {fa fb : EM} {p pos : Pos}
end
end Y
/-! ### a list beside the empty one -/
namespace Y
open PySem PySem.Spec PyProof.Rows L2
section
variable {X : Cx}
end
section
variable {X : Cx} {g : G} {E : EK} {a b : Expr} {fa fb : EM} {pos : Pos}
end
end Y
/-! ### fields of a width in f-strings; setters; d.get(None, x); written dicts of numbers -/
namespace Y
section
open PySem PySem.Spec PyProof.Rows PySem.Builtin PySem.Builtin.Str PySem.Builtin.Int PySem.Builtin.Float
section
variable {X : L2.Cx} {e : Expr} {te : L2.TE} {sp : Str} {n k : Nat} {pos p1 p2 : Pos}
end
end
open PySem PySem.Spec PyProof.Rows L2
section
variable {X : Cx} {g : G} {E : EK} {a : Expr} {fa : EM} {sp : Str} {n k : Nat} {pos p1 p2 : Pos}
end
/-! setters -/
section
variable {X : Cx} {CX : CXT} {k : Nat} {C p g a dx : Addr} {fs : List (Str × V)} {f : Str} {fd : FuncData} {ps : List Str} {sp : Sp} {E : XK} {o value : Expr} {pos pos' : Pos} {ta tv : TE} {y : V} {u : Value}
end
section
variable {X : Cx} {g : G} {E : XK} {F0 : FH} {H0 : Hp} {a o : Expr} {pos tpos : Pos} {fa fo : EM} {c : Str} {k : Nat} {mm : List D → Bx → R D}
end
/-! d.get(k, x), k may be None -/
section
variable {X : Cx} {pins : List (Addr × Obj)} {σ : L2.St} {H : Hp} {s : Shared} {a : Addr} {d : V} {r : Value} {A : Around} {E : Value → Shared → Prop}
end
section
variable {X : Cx} {o e f : Expr} {td ty tx : TE} {apos cpos : Pos}
end
section
variable {X : Cx} {g : G} {E : EK} {a b c : Expr} {pos apos : Pos} {fa fb fc : EM}
end
/-! a written dict of numbers -/
section
variable {X : Cx} {g : G} {E : EK} {pos : Pos}
end
end Y
/-! ### plain steps on cells -/
namespace Y
open PySem PySem.Spec PyProof.Rows L2
section
variable {S S1 S2 : SL} {w w1 w2 w3 : Bx} {f fa fb fo fk fv h : EM} {fs gs : AM} {ka : SL → Bx → R DKV} {ks : DKV} {d e z x : D} {ds es : List D} {i : Nat} {b ng : Bool} {c n m : Str} {mm : List D → Bx → R D} {mo : List D → Bx → R (List D)} {mi : List D → Bx → R (List (Str × D))} {fl : List (Str × D)} {nn : Nat → Bool} {k k2 : Nat} {k0 : Key}
end
end Y
/-! ### rooms, plainly -/
namespace Y
open PySem PySem.Spec PyProof.Rows L2
section
variable {S : SL} {w w1 w2 w3 : Bx} {fa fb fc : EM} {m1 m2 : D → D → Option D} {d e q z : D}
end
/-- the cells of a room -/
structure Ids where
  a : Nat
  b : Nat
  d : Nat
  e : Nat
  p : Nat
  f : Nat
/-- what a room holds -/
structure RM where
  lines : List D
  scripts : List D
  drafts : DKV
  done : List D
  past : List D
  future : List D
  most : Int
def flR (x : Ids) (mo : Int) (hd : Bool) : List (Str × D) := [("lines", .cel x.a), ("scripts", .cel x.b), ("drafts", .cel x.d), ("done", .cel x.e), ("most", .int mo), ("past", .cel x.p), ("future", .cel x.f), ("held", .bl hd)]
structure RAt (w : Bx) (c : Str) (i : Nat) (x : Ids) (m : RM) (hd : Bool) : Prop where
  ob : w.st[i]? = some (.obj c (flR x m.most hd))
  la : w.st[x.a]? = some (.lst m.lines)
  lb : w.st[x.b]? = some (.lst m.scripts)
  ld : w.st[x.d]? = some (.dct m.drafts)
  le : w.st[x.e]? = some (.lst m.done)
  lp : w.st[x.p]? = some (.lst m.past)
  lf : w.st[x.f]? = some (.lst m.future)
  nd : [i, x.a, x.b, x.d, x.e, x.p, x.f].Nodup
section
variable {w : Bx} {c : Str} {i : Nat} {x : Ids} {m : RM} {hd : Bool}
theorem RAt.obj (r : RAt w c i x m hd) : objAt w c (.cel i) = some (flR x m.most hd) := by
  unfold objAt; simp only [r.ob, if_true]
theorem RAt.cls (r : RAt w c i x m hd) : isClsC w c (.cel i) = true := by unfold isClsC; rw [r.obj]; rfl
theorem RAt.fld (r : RAt w c i x m hd) {n : Str} {z : D} (h : (flR x m.most hd).lookup n = some z) : fldAt w c n (.cel i) = some z := by unfold fldAt; rw [r.obj]; exact h
end
section
variable {S : SL} {w : Bx} {fs : AM} {ds : List D} {ks : DKV} {ka : SL → Bx → R DKV} {cs : List Cell}
end
section
variable {w : Bx} {c : Str} {i : Nat} {x : Ids} {m : RM} {hd : Bool} {cs : List Cell}
end
end Y
/-! ### a room's cells are turned -/
namespace Y
open PySem PySem.Spec PyProof.Rows L2
def Ids.l (x : Ids) (i : Nat) : List Nat := [i, x.a, x.b, x.d, x.e, x.p, x.f]
/-- a step that turns the cells of a room alone, and adds some -/
structure RSt (w w' : Bx) (i : Nat) (x x' : Ids) : Prop where
  le : w.st.length ≤ w'.st.length
  keep : ∀ k, k < w.st.length → k ∉ x.l i → w'.st[k]? = w.st[k]?
  ids : ∀ k, k ∈ x'.l i → k ∈ x.l i ∨ w.st.length ≤ k
theorem RSt.refl (w : Bx) (i : Nat) (x : Ids) : RSt w w i x x := ⟨Nat.le_refl _, fun _ _ _ => rfl, fun _ h => .inl h⟩
theorem RSt.trans {w w1 w2 : Bx} {i : Nat} {x x1 x2 : Ids} (a : RSt w w1 i x x1) (b : RSt w1 w2 i x1 x2) : RSt w w2 i x x2 := by
  refine ⟨Nat.le_trans a.le b.le, fun k h n => ?_, fun k h => ?_⟩
  · rw [b.keep k (Nat.lt_of_lt_of_le h a.le) fun h2 => ?_]
    · exact a.keep k h n
    · rcases a.ids k h2 with h3 | h3
      · exact n h3
      · omega
  · rcases b.ids k h with h2 | h2
    · exact a.ids k h2
    · exact .inr (Nat.le_trans a.le h2)
theorem RSt.at {w w' : Bx} {i k : Nat} {x x' : Ids} {c : Cell} (a : RSt w w' i x x') (h : w.st[k]? = some c) (n : k ∉ x.l i) : w'.st[k]? = some c ∧ k ∉ x'.l i := by
  have hl := (List.getElem?_eq_some_iff.mp h).1
  refine ⟨by rw [a.keep k hl n]; exact h, fun h2 => ?_⟩
  rcases a.ids k h2 with h3 | h3
  · exact n h3
  · omega
/-- a step that adds cells alone -/
structure ASt (w w' : Bx) : Prop where
  keep : ∀ (k : Nat) (c : Cell), w.st[k]? = some c → w'.st[k]? = some c
  le : w.st.length ≤ w'.st.length
theorem ASt.refl (w : Bx) : ASt w w := ⟨fun _ _ h => h, Nat.le_refl _⟩
theorem ASt.trans {w w1 w2 : Bx} (a : ASt w w1) (b : ASt w1 w2) : ASt w w2 := ⟨fun k c h => b.keep k c (a.keep k c h), Nat.le_trans a.le b.le⟩
theorem ASt.of_eq {w w' : Bx} (h : w'.st = w.st) : ASt w w' := ⟨fun k c q => by rw [h]; exact q, by rw [h]; exact Nat.le_refl _⟩
/-- a new cell is turned -/
theorem ASt.put {w w' : Bx} {k : Nat} {c : Cell} (a : ASt w w') (h : w.st.length ≤ k) : ASt w (w'.put k c) := ⟨fun j d q => by
  show (w'.st.set k c)[j]? = _
  have := (List.getElem?_eq_some_iff.mp q).1
  rw [List.getElem?_set_ne (by omega)]; exact a.keep j d q, by show _ ≤ (w'.st.set k c).length; rw [List.length_set]; exact a.le⟩
section
variable {w w' : Bx} {c : Str} {i : Nat} {x : Ids} {m : RM} {hd : Bool} {ds : List D} {ks : DKV}
theorem RSt.put {w1 : Bx} {k : Nat} {d : Cell} {x2 : Ids} (a : RSt w w1 i x x2) (h : k ∈ x.l i ∨ w.st.length ≤ k) : RSt w (w1.put k d) i x x2 := ⟨by show _ ≤ (w1.st.set k d).length; rw [List.length_set]; exact a.le, fun j h1 h2 => by
  show (w1.st.set k d)[j]? = _
  rw [List.getElem?_set_ne (fun e => by subst e; rcases h with h | h; exact h2 h; omega)]; exact a.keep j h1 h2, a.ids⟩
-- the cells themselves
end
end Y
/-! ### the model of a room -/
namespace Y
open PySem PySem.Spec PyProof.Rows L2
/-! lists of names -/
section
variable {α : Type}
def aGet (l : List (Str × α)) (n : Str) : Option α := (l.find? fun p => decide (p.1 = n)).map (·.2)
def aPut (l : List (Str × α)) (n : Str) (v : α) : List (Str × α) := if (l.any fun p => decide (p.1 = n)) = true then l.map (fun p => if p.1 = n then (p.1, v) else p) else l ++ [(n, v)]
/-- as a dict's data -/
def aD (g : α → D) (l : List (Str × α)) : DKV := l.map fun p => (Sum.inr p.1, g p.2)
variable {g : α → D} {l : List (Str × α)} {n : Str} {v : α}
theorem aGet_mem (h : aGet l n = some v) : (n, v) ∈ l := by
  unfold aGet at h
  obtain ⟨p, hp, rfl⟩ := Option.map_eq_some_iff.mp h
  have h1 := List.mem_of_find?_eq_some hp
  have h2 : p.1 = n := of_decide_eq_true (List.find?_some (p := fun p : Str × α => decide (p.1 = n)) hp)
  rw [← h2]; exact h1
theorem aPut_mem {p : Str × α} {u : α} (h : p ∈ aPut l n u) : p ∈ l ∨ p = (n, u) := by
  unfold aPut at h
  split at h
  · obtain ⟨q, hq, e⟩ := List.mem_map.mp h
    by_cases hn : q.1 = n
    · rw [if_pos hn, hn] at e; exact .inr e.symm
    · rw [if_neg hn] at e; exact .inl (e ▸ hq)
  · rcases List.mem_append.mp h with h | h
    · exact .inl h
    · exact .inr (List.mem_singleton.mp h)
end
/-! a room -/
abbrev Dr := Nat × List Ed
structure Md where
  rows : List (List Nat)
  made : List (Option (List Ed))
  drafts : List (Str × Dr)
  done : List D
abbrev strD (l : List Nat) : D := .str (tx l)
def madeR : Option (List Ed) → D
  | none => .non
  | some es => scD es
def drR (v : Dr) : D := .tup [.int (v.1 : Int), scD v.2]
/-- the state that a room keeps -/
def Md.st (s : Md) : D := .tup [.lst (s.rows.map strD), .lst (s.made.map madeR), .dct (aD drR s.drafts), .lst s.done]
inductive Cm where
  | begin (n : Str) | edit (n : Str) (e : Ed) | retract (n : Str) | abandon (n : Str) | land (n : Str) | refresh (n : Str) | badEdit (n : Str)
def Cm.d : Cm → D
  | .begin n => .tup [.str "begin", .str n]
  | .edit n e => .tup [.str "edit", .str n, edD e]
  | .retract n => .tup [.str "retract", .str n]
  | .abandon n => .tup [.str "abandon", .str n]
  | .land n => .tup [.str "land", .str n]
  | .refresh n => .tup [.str "refresh", .str n]
  | .badEdit n => .tup [.str "edit", .str n, .tup [.str "flip", .str "a"]]
/-- what a room refuses -/
inductive Er where
  | badName (n : Str) | dupName (n : Str) | cap (k : Int) | unkName (n : Str) | nothing | long
  | untraced (k : Nat) | conflict (k : Nat) | order (n : Str) | noCarry (n : Str) | badEdit
def Er.c : Er → Str
  | .badName _ => "InvalidName"
  | .dupName _ => "DuplicateName"
  | .cap _ => "CapacityExceeded"
  | .unkName _ => "UnknownName"
  | .nothing => "NothingLeft"
  | .long => "TooLong"
  | .untraced _ => "Untraced"
  | .conflict _ => "Conflict"
  | .order _ => "OrderMatters"
  | .noCarry _ => "NoCarry"
  | .badEdit => "InvalidEdit"
def Er.v : Er → D
  | .badName n => .str n
  | .dupName n => .str n
  | .cap k => .int k
  | .unkName n => .str n
  | .nothing => .non
  | .long => .int 4
  | .untraced k => .int (k : Int)
  | .conflict k => .int (k : Int)
  | .order n => .str n
  | .noCarry n => .str n
  | .badEdit => .int 0
def Er.f : Er → Str
  | .badName _ => "name"
  | .dupName _ => "name"
  | .cap _ => "most"
  | .unkName _ => "name"
  | .nothing => ""
  | .long => "most"
  | .untraced _ => "number"
  | .conflict _ => "at"
  | .order _ => "name"
  | .noCarry _ => "name"
  | .badEdit => "at"
def Er.fs (e : Er) : List (Str × D) := match e with
  | .nothing => [("tag", .str "NothingLeft")]
  | e => [("tag", .str e.c), (e.f, e.v)]
def Er.due (e : Er) : D := .tup [.str e.c, e.v]
section
variable {nm : Str → Bool} {s : Md} {n : Str} {e : Ed}
end
/-- what holds of a room's state -/
structure Md.Ok (s : Md) (B : Nat) : Prop where
  rn : s.rows ≠ []
  rl : s.rows.length ≤ B
  ml : s.made.length = s.rows.length
  rab : ∀ r ∈ s.rows, ∀ c ∈ r, AB c
  rlen : ∀ r ∈ s.rows, r.length ≤ 9000
  md : ∀ o ∈ s.made, ∀ es, o = some es → (∀ e ∈ es, Ed12 e) ∧ es.length ≤ 4
  dn : s.drafts.length ≤ 8
  dr : ∀ p ∈ s.drafts, p.2.1 < s.rows.length ∧ (∀ e ∈ p.2.2, Ed12 e) ∧ p.2.2.length ≤ 4
  dl : s.done.length ≤ B
theorem Md.Ok.mono {s : Md} {A B : Nat} (h : s.Ok A) (l : A ≤ B) : s.Ok B := ⟨h.rn, Nat.le_trans h.rl l, h.ml, h.rab, h.rlen, h.md, h.dn, h.dr, Nat.le_trans h.dl l⟩
theorem Md.Ok.get {s : Md} {B b : Nat} {n : Str} {es : List Ed} (h : s.Ok B) (g : aGet s.drafts n = some (b, es)) : b < s.rows.length ∧ (∀ e ∈ es, Ed12 e) ∧ es.length ≤ 4 := h.dr _ (aGet_mem g)
theorem Md.Ok.put {s : Md} {B : Nat} {n : Str} {v : Dr} (h : s.Ok B) (hl : (aPut s.drafts n v).length ≤ 8) (hv : v.1 < s.rows.length ∧ (∀ e ∈ v.2, Ed12 e) ∧ v.2.length ≤ 4) (c : D) : ({ s with drafts := aPut s.drafts n v, done := s.done ++ [c] } : Md).Ok (B + 1) :=
  ⟨h.rn, Nat.le_succ_of_le h.rl, h.ml, h.rab, h.rlen, h.md, hl, fun p hp => (aPut_mem hp).elim (h.dr p) (fun e => e ▸ hv), by show (s.done ++ [c]).length ≤ _; rw [List.length_append]; exact Nat.succ_le_succ h.dl⟩
end Y
/-! ### plain steps: try, for over a dict, star methods, generators -/
namespace Y
open PySem PySem.Spec PyProof.Rows L2
section
variable {S S1 S2 S3 : SL} {w w1 w2 w3 : Bx} {mb ms mf body : SM} {L : List Str} {c m : Str} {fs : List (Str × D)} {gm : GM} {fo : EM} {as : AM} {ds es : List D} {d z : D} {mm : List D → Bx → R D} {nn : Nat → Bool}
end
section
variable {S : SL} {w w1 w2 : Bx} {f fo fk fv : EM} {as : AM} {c : Str} {l : List (Str × D)} {d : D}
end
/-! dicts by names -/
section
variable {α : Type} {g : α → D} {l : List (Str × α)} {n : Str} {v : α} {w : Bx} {d : D}
end
section
variable {w : Bx} {c : Str} {i : Nat} {x : Ids} {m : RM} {hd : Bool}
end
section
variable {S : SL} {w : Bx} {l : List Nat} {mo : Int} {fs gs : AM} {c : Str} {m : List D → Bx → R (List (Str × D))}
end
end Y
/-! ### landing, plainly -/
namespace Y
open PySem PySem.Spec PyProof.Rows L2
end Y
/-! ### the commands that a room tells -/
namespace Y
open PySem PySem.Spec PyProof.Rows L2
end Y
/-! ### super() of a cell; a new list, one way or the other; two classes of rooms -/
namespace Y
open PySem PySem.Spec PyProof.Rows L2
/-! plain steps -/
section
variable {S : SL} {w w1 w2 : Bx} {fo : EM} {fs : AM} {c m : Str} {k : Nat} {d z : D} {ds es : List D} {mm : Str → List D → Bx → R D} {mo : Str → List D → Bx → R (List D)}
end
end Y
/-! ### for over a dict that an expression tells -/
namespace Y
open PySem PySem.Spec PyProof.Rows L2
section
variable {X : Cx} {g : G} {E : EK} {F0 : FH} {H0 : Hp} {body : List Stmt} {m : SM} {pos : Pos} {gm : GM} {ns : List Nat} {tg ex : Expr} {fa : EM}
end
end Y
/-! ### a star method called without arguments -/
namespace Y
open PySem PySem.Spec PyProof.Rows L2
section
variable {X : Cx} {g : G} {o : Expr} {pos apos : Pos} {fo : EM} {c m : Str} {k : Nat} {n : Nat → Bool} {mm : List D → Bx → R D} {E : XK}
end
end Y
namespace Y
open PySem PySem.Spec PyProof.Rows L2
/-! ### x in y by an own __contains__ ; == of objects of two classes by an own __eq__ -/
section
variable {X : Cx} {g : G} {E : EK} {e a b o : Expr} {pos p p2 : Pos} {f fa fb : EM} {x c c2 m : Str} {k n : Nat} {mm : List D → Bx → R D}
def rOwnIn (C : Addr) (sp : Sp) (E : XK) : R2 := fun x y H Q => ∃ b dy gs, y = .ref b ∧ H b = some (.ins C dy gs) ∧ sp [y, x] H (fun v H' => ∃ t : Bool, v = .bl t ∧ Q (.bl t) H') E
theorem op_ownIn {E : XK} {C f : Addr} {sp : Sp} (F : FnR X.prog X.w X.K X.mg X.base (L2N.CX X.prog X.w) k f sp) (hr : Room k X.A) (hx : Passes (L2N.CX X.prog X.w) X E) (hs : PySem.W.findIn X.K (.ref C) "__contains__" = some (some (.ref f))) (hf : PySem.W.isFn X.K (.ref f) = true) :
    OpR X (compareOp .In) (rOwnIn C sp E) := by
  intro pins s σ H x y u v Q I rx ry h
  obtain ⟨b, dy, gs, rfl, hb, q⟩ := h
  cases ry
  obtain ⟨mB, J, _⟩ := ins_get I.hok hb
  obtain ⟨od, J, _⟩ := J.look
  obtain ⟨m, hF⟩ := I.fr
  show wpAny (model X.prog X.w) X.A (compareOp .In u (.ref b)) (EP X pins σ Q) X.xe s
  refine PySem.W.in_K hF I.ok.mod.kin J hs hf ?_
  refine wpAny_mono (wpAny_call (run_fnR (vs := [V.ref b, x]) F hr hx I (.cons rfl (.cons rx .nil)) q)) (fun r s' hq => ?_) fun _ _ z => z
  obtain ⟨z, H', I', rz, t, ez, qz⟩ := hq
  subst ez
  cases rz
  exact wpAny_pure ⟨.bl t, H', I', rfl, qz⟩
def blrR : R D → R D
  | .ok (.bl t) w => .ok (.bl t) w
  | _ => .bad
def eOwnIn (c : Str) (mm : List D → Bx → R D) (fa fb : EM) : EM := fun S w => (fa S w).bind fun d w1 => (fb S w1).bind fun e w2 => if isCls c e then blrR (mm [e, d] w2) else .bad
theorem de_ownIn {E : XK} (hK : g.K = X.K) (M : MthK X.prog X.w X.K X.mg X.base g.cls c "__contains__" k 2 mm) (hr : Room k X.A) (hx : Passes (L2N.CX X.prog X.w) X E) (ha : DE X g (kE E) a fa) (hb : DE X g (kE E) b fb) (hk : behindInMarks .In b = false := by first | exact nomark _ | rfl) : DE X g (kE E) (.Compare a [.In] [b] pos) (eOwnIn c mm fa fb) := by
  obtain ⟨C, f, fd, ps, hc, _, me, F, bi⟩ := M.ex
  obtain ⟨ta, pa, ra⟩ := ha.run
  obtain ⟨tb, pb, rb⟩ := hb.run
  refine ⟨_, pe_cmpR (op_ownIn (raw_spM (g := g) F bi) hr hx me.at_ me.fn) pa pb hk, fun σ H Q F S w R h => ?_⟩
  refine ra σ H _ F S w R (PostG.imp (PostG.bind h) fun d w1 hd h1 v H1 F1 x1 r1 => ?_)
  refine rb σ H1 _ F1 S w1 (R.ext x1) (PostG.ext x1 (PostG.bind h1) fun e w2 h2 u H2 F2 x2 r2 => ?_)
  have x12 := x1.trans x2
  by_cases hd : isCls c e = true
  · rw [if_pos hd] at h2
    have r1' := r1.mono x2.ff
    obtain ⟨q, C', dx, vs, ev, hc', hq⟩ := r2.isCls hd
    obtain rfl : C' = C := Option.some.inj (hc'.symm.trans hc)
    subst ev
    refine ⟨q, dx, vs, rfl, x2.sub _ _ hq, ?_⟩
    rw [← hK]
    refine ⟨rfl, g.bq, F2, [e, d], w2, x2.sub, x2.bx, .cons r2 (.cons r1' .nil), ?_⟩
    cases hmm : mm [e, d] w2 with
    | ok z w3 =>
      rw [hmm] at h2
      cases z with
      | bl t =>
        intro v H' F' x r
        cases r
        exact ⟨t, rfl, h2 (.bl t) H' F' (x12.trans x) (.bl _)⟩
      | _ => exact h2.elim
    | _ => rw [hmm] at h2; exact h2.elim
  · rw [if_neg hd] at h2; exact h2.elim
/-! two classes -/
def rOwnC (C C2 : Addr) (sp : Sp) (E : XK) : R2 := fun x y H Q => ∃ a b dx dy fs gs, x = .ref a ∧ y = .ref b ∧ H a = some (.ins C dx fs) ∧ H b = some (.ins C2 dy gs) ∧ sp [x, y] H Q E
theorem op_ownEqC {E : XK} {C C2 f : Addr} {sp : Sp} (F : FnR X.prog X.w X.K X.mg X.base (L2N.CX X.prog X.w) k f sp) (hr : Room k X.A) (hx : Passes (L2N.CX X.prog X.w) X E) (hn : PySem.W.subIn X.K (.ref C2) (.ref C) = some false) (hs : PySem.W.findIn X.K (.ref C) "__eq__" = some (some (.ref f))) (hf : PySem.W.isFn X.K (.ref f) = true) :
    OpR X (compareOp .Eq) (rOwnC C C2 sp E) := by
  intro pins s σ H x y u v Q I rx ry h
  obtain ⟨a, b, dx, dy, fs, gs, rfl, rfl, ha, hb, q⟩ := h
  cases rx
  cases ry
  obtain ⟨mA, J, _⟩ := ins_get I.hok ha
  obtain ⟨mB, J', _⟩ := ins_get I.hok hb
  obtain ⟨od, J, _⟩ := J.look
  obtain ⟨od', J', _⟩ := J'.look
  obtain ⟨m, hF⟩ := I.fr
  show wpAny (model X.prog X.w) X.A (richCompare .Eq (.ref a) (.ref b)) (EP X pins σ Q) X.xe s
  refine PySem.W.cmp_K (op := .Eq) (tb := .ref C2) hr.units0 hF I.ok.mod.kin J J'.type (by unfold PySem.W.notFirst; rw [hn]; simp) hs hf ?_
  refine wpAny_mono (wpAny_call (run_fnR (vs := [V.ref a, V.ref b]) F hr hx I (.cons rfl (.cons rfl .nil)) q)) (fun r s' hq => ?_) fun _ _ z => z
  obtain ⟨z, H', I', rz, qz⟩ := hq
  have key : EP X pins σ Q r s' := ⟨z, H', I', rz, qz⟩
  cases r with
  | notImplemented => cases z <;> first | (obtain ⟨t, e⟩ := rz; cases e) | cases rz
  | _ => exact key
def eOwnC (c c2 : Str) (mm : List D → Bx → R D) (fa fb : EM) : EM := fun S w => (fa S w).bind fun d w1 => (fb S w1).bind fun e w2 => if isCls c d && isCls c2 e then mm [d, e] w2 else .bad
/-- no object of the one class is one of the other -/
structure NoC (K : PySem.W.Frag) (cls : CT) (c2 c : Str) : Prop where
  ex : ∃ C2 C, cls c2 = some C2 ∧ cls c = some C ∧ PySem.W.subIn K (.ref C2) (.ref C) = some false
theorem de_ownEqC {E : XK} (hK : g.K = X.K) (M : OpK X.prog X.w X.K X.mg X.base g.cls c "__eq__" k mm) (M2 : NoC X.K g.cls c2 c) (hr : Room k X.A) (hx : Passes (L2N.CX X.prog X.w) X E) (ha : DE X g (kE E) a fa) (hb : DE X g (kE E) b fb) (hk : behindInMarks .Eq b = false := by first | exact nomark _ | rfl) : DE X g (kE E) (.Compare a [.Eq] [b] pos) (eOwnC c c2 mm fa fb) := by
  obtain ⟨C, f, fd, ps, hc, sf, fi, hf, F, bi⟩ := M.ex
  obtain ⟨C2, C3, k0, k1, k2⟩ := M2.ex
  obtain rfl : C3 = C := Option.some.inj (k1.symm.trans hc)
  obtain ⟨ta, pa, ra⟩ := ha.run
  obtain ⟨tb, pb, rb⟩ := hb.run
  refine ⟨_, pe_cmpR (op_ownEqC (raw_spM (g := g) F bi) hr hx k2 fi hf) pa pb hk, fun σ H Q F S w R h => ?_⟩
  refine ra σ H _ F S w R (PostG.imp (PostG.bind h) fun d w1 hd h1 v H1 F1 x1 r1 => ?_)
  refine rb σ H1 _ F1 S w1 (R.ext x1) (PostG.ext x1 (PostG.bind h1) fun e w2 h2 u H2 F2 x2 r2 => ?_)
  have x12 := x1.trans x2
  by_cases hd : (isCls c d && isCls c2 e) = true
  · rw [if_pos hd] at h2
    rw [Bool.and_eq_true] at hd
    have r1' := r1.mono x2.ff
    obtain ⟨q, C', dx, vs, ev, hc', hq⟩ := r1'.isCls hd.1
    obtain rfl : C' = C3 := Option.some.inj (hc'.symm.trans hc)
    obtain ⟨q2, C4, dx2, vs2, ev2, hc2, hq2⟩ := r2.isCls hd.2
    obtain rfl : C4 = C2 := Option.some.inj (hc2.symm.trans k0)
    refine ⟨q, q2, dx, dx2, vs, vs2, ev, ev2, x2.sub _ _ hq, x2.sub _ _ hq2, ?_⟩
    rw [← hK]
    exact ⟨rfl, g.bq, F2, [d, e], w2, x2.sub, x2.bx, .cons r1' (.cons r2 .nil), Post.of x12 h2⟩
  · rw [if_neg hd] at h2; exact h2.elim
end
section
variable {S : SL} {w w1 w2 w3 : Bx} {fa fb : EM} {d e : D} {r : R D} {c c2 : Str} {mm : List D → Bx → R D} {b : Bool}
theorem x_ownIn (ha : fa S w = .ok d w1) (hb : fb S w1 = .ok e w2) (hc : isCls c e = true) (hm : mm [e, d] w2 = .ok (.bl b) w3) : eOwnIn c mm fa fb S w = .ok (.bl b) w3 := by
  unfold eOwnIn; rw [ha, R.bind_ok, hb, R.bind_ok, if_pos hc, hm]; rfl
theorem x_ownC (ha : fa S w = .ok d w1) (hb : fb S w1 = .ok e w2) (ho : isCls c d = true) (ht : isCls c2 e = true) (hm : mm [d, e] w2 = r) : eOwnC c c2 mm fa fb S w = r := by
  unfold eOwnC; rw [ha, R.bind_ok, hb, R.bind_ok, ho, ht]; exact hm
end
end Y
namespace Y
open PySem PySem.Spec PyProof.Rows L2
/-! ### try: .. except (A, B) as e: return f"text {e.tag}" -/
section
variable {X : Cx} {g : G} {E : EK} {F0 : FH} {H0 : Hp} {en pre : Str} {i j : Nat} {t : Expr} {cs : List Value} {L : List Str} {body : List Stmt} {mb : SM} {q1 q2 q3 q4 q5 q6 cpos pos : Pos}
end
section
variable {L : List Str} {pre z : Str} {mb : SM} {S S1 : SL} {w w1 : Bx} {c : Str} {fs : List (Str × D)} {d : D}
end
end Y
namespace Y
open PySem PySem.Spec PyProof.Rows L2
end Y
local macro_rules | `(tactic| walk_at "y_leaf") => `(tactic| first
    | ((with_reducible show _ = _); (with_reducible assumption))
    | ((first | with_reducible refine Y.st_eq ?_ | with_reducible refine Y.st_ne ?_ | with_reducible refine Y.st_in ?_ | with_reducible refine Y.st_nin ?_ | with_reducible refine Y.st_tab ?_ | with_reducible refine Y.st_tabD ?_) <;> (first | exact ⟨Y.of_isT (by decide +kernel)⟩ | exact ⟨Y.of_isF (by decide +kernel)⟩ | skip))
    | ((first | with_reducible refine Y.tqO ?_ | with_reducible refine Y.tqN ?_ | with_reducible refine Y.tqB ?_ | with_reducible refine Y.tqD ?_ | with_reducible refine Y.tqL ?_) <;> rfl))
local macro_rules | `(tactic| walk_at "y_ev") => `(tactic| repeat' (first
    | with_reducible exact Y.x_nil
    | with_reducible exact Y.x_C
    | with_reducible exact Y.x_pN
    | with_reducible exact Y.x_skip
    | (((with_reducible apply Y.x_var)) <;> rfl)
    | (with_reducible apply Y.x_cons)
    | (with_reducible apply Y.x_tOf)
    | (with_reducible apply Y.x_bin)
    | (with_reducible apply Y.x_e1)
    | (with_reducible apply Y.x_B)
    | ((with_reducible apply Y.x_tupZ); (· walk_at "y_ev"); (· exact Y.lsz rfl); (· rfl))
    | ((with_reducible apply Y.x_lst); (· walk_at "y_ev"); (· exact Y.lsz rfl))
    | (with_reducible apply Y.x_frz)
    | (with_reducible apply Y.x_dget2)
    | (with_reducible apply Y.x_sl)
    | (with_reducible apply Y.x_pSome)
    | ((with_reducible apply Y.x_call); (· walk_at "y_ev"); (· rfl))
    | (with_reducible apply Y.x_ret)
    | (with_reducible apply Y.x_set)
    | (with_reducible apply Y.x_par)
    | (with_reducible apply Y.x_par3)
    | ((with_reducible apply Y.x_seqR); (with_reducible apply Y.x_ifT); (· (walk_at "y_ev"; done)); (with_reducible apply Y.x_ret))
    | (with_reducible apply Y.x_seq)
    | ((with_reducible apply Y.x_ifT); (· (walk_at "y_ev"; done)))
    | ((with_reducible apply Y.x_ifF); (· (walk_at "y_ev"; done)))
    | ((with_reducible apply Y.x_eifT); (· (walk_at "y_ev"; done)))
    | ((with_reducible apply Y.x_eifF); (· (walk_at "y_ev"; done)))
    | ((with_reducible apply Y.x_notT); (· (walk_at "y_ev"; done)))
    | ((with_reducible apply Y.x_notF); (· (walk_at "y_ev"; done)))
    | ((with_reducible apply Y.x_orT); (· (walk_at "y_ev"; done)))
    | ((with_reducible apply Y.x_orF); (· (walk_at "y_ev"; done)))
    | ((with_reducible apply Y.x_andF); (· (walk_at "y_ev"; done)))
    | ((with_reducible apply Y.x_andT); (· (walk_at "y_ev"; done)))
    | ((with_reducible apply Y.x_enotT); (· (walk_at "y_ev"; done)))
    | ((with_reducible apply Y.x_enotF); (· (walk_at "y_ev"; done)))
    | ((with_reducible apply Y.x_eorT); (· (walk_at "y_ev"; done)))
    | ((with_reducible apply Y.x_eorF); (· (walk_at "y_ev"; done)))
    | ((with_reducible apply Y.x_eandF); (· (walk_at "y_ev"; done)))
    | ((with_reducible apply Y.x_eandT); (· (walk_at "y_ev"; done)))
    | walk_at "y_leaf"))
namespace Z
open PySem PySem.Spec PyProof.Rows L2 Y
theorem sc_L_open : FnScope ["_law_script_here", "_law_cells", "_law_mark", "_law_cell"] ["_law_script_here"] (defScope s_L_open) := ⟨rfl, rfl, rfl, by decide +kernel, rfl, by decide +kernel, by decide +kernel⟩
theorem sc_InvalidEdit___init__ : FnScope ["self", "at"] ["self", "at"] (defScope s_InvalidEdit___init__) := ⟨rfl, rfl, rfl, by decide +kernel, rfl, by decide +kernel, by decide +kernel⟩
theorem sc_TooLong___init__ : FnScope ["self", "most"] ["self", "most"] (defScope s_TooLong___init__) := ⟨rfl, rfl, rfl, by decide +kernel, rfl, by decide +kernel, by decide +kernel⟩
theorem sc_L_refused : FnScope ["_law_ask", "_law_told", "_law_e"] ["_law_ask"] (defScope s_L_refused) := ⟨rfl, rfl, rfl, by decide +kernel, rfl, by decide +kernel, by decide +kernel⟩
theorem sc_Merge___init__ : FnScope ["self", "one", "other"] ["self", "one", "other"] (defScope s_Merge___init__) := ⟨rfl, rfl, rfl, by decide +kernel, rfl, by decide +kernel, by decide +kernel⟩
theorem sc_Script___contains__ : FnScope ["self", "edit"] ["self", "edit"] (defScope s_Script___contains__) := ⟨rfl, rfl, rfl, by decide +kernel, rfl, by decide +kernel, by decide +kernel⟩
theorem sc_Script___eq__ : FnScope ["self", "other"] ["self", "other"] (defScope s_Script___eq__) := ⟨rfl, rfl, rfl, by decide +kernel, rfl, by decide +kernel, by decide +kernel⟩
theorem sc_is_symbol : FnScope ["thing"] ["thing"] (defScope s_is_symbol) := ⟨rfl, rfl, rfl, by decide +kernel, rfl, by decide +kernel, by decide +kernel⟩
theorem sc_is_place : FnScope ["thing", "symbol", "number", "end"] ["thing"] (defScope s_is_place) := ⟨rfl, rfl, rfl, by decide +kernel, rfl, by decide +kernel, by decide +kernel⟩
theorem sc_is_edit : FnScope ["thing", "word"] ["thing"] (defScope s_is_edit) := ⟨rfl, rfl, rfl, by decide +kernel, rfl, by decide +kernel, by decide +kernel⟩
theorem sc_Script___init__ : FnScope ["self", "edits", "at", "edit"] ["self", "edits"] (defScope s_Script___init__) := ⟨rfl, rfl, rfl, by decide +kernel, rfl, by decide +kernel, by decide +kernel⟩
theorem sc_Script___len__ : FnScope ["self"] ["self"] (defScope s_Script___len__) := ⟨rfl, rfl, rfl, by decide +kernel, rfl, by decide +kernel, by decide +kernel⟩
theorem sc_Script___repr__ : FnScope ["self"] ["self"] (defScope s_Script___repr__) := ⟨rfl, rfl, rfl, by decide +kernel, rfl, by decide +kernel, by decide +kernel⟩
theorem sc_Script_edits : FnScope ["self"] ["self"] (defScope s_Script_edits) := ⟨rfl, rfl, rfl, by decide +kernel, rfl, by decide +kernel, by decide +kernel⟩
theorem sc_L_draw : FnScope ["_law_box", "_law_many", "_law_cell", "_law_found"] ["_law_box", "_law_many"] (defScope s_L_draw) := ⟨rfl, rfl, rfl, by decide +kernel, rfl, by decide +kernel, by decide +kernel⟩
theorem sc_L_any : FnScope ["_law_box", "_law_things"] ["_law_box", "_law_things"] (defScope s_L_any) := ⟨rfl, rfl, rfl, by decide +kernel, rfl, by decide +kernel, by decide +kernel⟩
theorem sc_L_place : FnScope ["_law_box"] ["_law_box"] (defScope s_L_place) := ⟨rfl, rfl, rfl, by decide +kernel, rfl, by decide +kernel, by decide +kernel⟩
theorem sc_L_edit : FnScope ["_law_box", "_law_word", "_law_spot"] ["_law_box"] (defScope s_L_edit) := ⟨rfl, rfl, rfl, by decide +kernel, rfl, by decide +kernel, by decide +kernel⟩
theorem sc_L_edits : FnScope ["_law_box", "_law_most", "_law_k"] ["_law_box", "_law_most"] (defScope s_L_edits) := ⟨rfl, rfl, rfl, by decide +kernel, rfl, by decide +kernel, by decide +kernel⟩
theorem sc_L_whole : FnScope ["_law_found"] ["_law_found"] (defScope s_L_whole) := ⟨rfl, rfl, rfl, by decide +kernel, rfl, by decide +kernel, by decide +kernel⟩
theorem sc_L_same : FnScope ["_law_found", "_law_due", "_law_one", "_law_other"] ["_law_found", "_law_due"] (defScope s_L_same) := ⟨rfl, rfl, rfl, by decide +kernel, rfl, by decide +kernel, by decide +kernel⟩
theorem sc_Script___add__ : FnScope ["self", "other", "edits"] ["self", "other"] (defScope s_Script___add__) := ⟨rfl, rfl, rfl, by decide +kernel, rfl, by decide +kernel, by decide +kernel⟩
theorem sc_L_script : FnScope ["_law_edits_here", "_law_found", "_law_each"] ["_law_edits_here"] (defScope s_L_script) := ⟨rfl, rfl, rfl, by decide +kernel, rfl, by decide +kernel, by decide +kernel⟩
theorem sc_law : FnScope ["_law_script_here", "_law_box", "_law_turn", "_law_some", "_law_others", "_law_one", "_law_two", "_law_text", "_law_edit_here", "_law_bad", "_law_a", "_law_b", "_law_c", "_law_d", "_law_e", "_law_asks", "_law_dues", "_law_k", "_law_ask"] ["_law_script_here"] (defScope s_law) := ⟨rfl, rfl, rfl, by decide +kernel, rfl, by decide +kernel, by decide +kernel⟩
def la_law_0 : List LamI := lamsOf ("law" ++ ".<locals>." ++ "<lambda>") (stAt (defBody s_law) [1, 0, 13]) ++ lamsOfA ("law" ++ ".<locals>." ++ "<lambda>") (stAt (defBody s_law) [1, 0, 14])
structure Top (P : Program) (w : World) (K : PySem.W.Frag) (mg : Str → Option Value) (base : Heap) (tb : List (Addr × Str)) : Prop where
  n_all : mg "all" = none
  n_bool : mg "bool" = none
  n_enumerate : mg "enumerate" = none
  n_int : mg "int" = none
  n_isinstance : mg "isinstance" = none
  n_len : mg "len" = none
  n_list : mg "list" = none
  n_range : mg "range" = none
  n_repr : mg "repr" = none
  n_str : mg "str" = none
  n_tuple : mg "tuple" = none
  n_zip : mg "zip" = none
  g_ENDS : Glb K mg "ENDS" (.tup [(.str "front"), (.str "back")])
  g_NUMBERS : Glb K mg "NUMBERS" (.tup [(.int 1), (.int 2)])
  mt_Script___repr__ : MthF K mg "Script" "__repr__" "Script.__repr__" s_Script___repr__ ["self"]
  mt_Script___len__ : MthF K mg "Script" "__len__" "Script.__len__" s_Script___len__ ["self"]
  mt_Script_edits : MthF K mg "Script" "edits" "Script.edits" s_Script_edits ["self"]
  mt_Script___contains__ : MthF K mg "Script" "__contains__" "Script.__contains__" s_Script___contains__ ["self", "edit"]
  ne_Script : NeF K mg "Script" "Script.__eq__" s_Script___eq__ ["self", "other"]
  op_Script___eq__ : OpF K mg "Script" "__eq__" "Script.__eq__" s_Script___eq__ ["self", "other"]
  nc_Merge_Script : NoC K (clsOf mg tb) "Merge" "Script"
  in_Merge : IniB K mg "Merge" "Merge.__init__" s_Merge___init__ ["self", "one", "other"]
  no_Script : NoK K (clsOf mg tb) "Script"
  ref : RefK K mg (clsOf mg tb) "_law_refused" refTbl
  in_Script : IniF K mg "Script" "Script.__init__" s_Script___init__
  cs_Script_MOST : CstK K mg "Script" "MOST" (.int 4)
  fl_Merge_first : FldF K mg "Merge" "first"
  fl_Merge_second : FldF K mg "Merge" "second"
  fl_Script_kept : FldF K mg "Script" "kept"
  ig_Script : IsGK K mg (clsOf mg tb) "Script" isg_Script
  ex_InvalidEdit : ExGF xbV K mg "InvalidEdit" "at" "InvalidEdit.__init__" s_InvalidEdit___init__
  ex_TooLong : ExGF xbV K mg "TooLong" "most" "TooLong.__init__" s_TooLong___init__
  op_Script___add__ : OpF K mg "Script" "__add__" "Script.__add__" s_Script___add__ ["self", "other"]
  d_L_open : Def K mg "_law_open" s_L_open ["_law_script_here"]
  d_is_symbol : Def K mg "is_symbol" s_is_symbol ["thing"]
  d_is_place : Def K mg "is_place" s_is_place ["thing"]
  d_is_edit : Def K mg "is_edit" s_is_edit ["thing"]
  d_L_draw : Def K mg "_law_draw" s_L_draw ["_law_box", "_law_many"]
  d_L_any : Def K mg "_law_any" s_L_any ["_law_box", "_law_things"]
  d_L_place : Def K mg "_law_place" s_L_place ["_law_box"]
  d_L_edit : Def K mg "_law_edit" s_L_edit ["_law_box"]
  d_L_edits : Def K mg "_law_edits" s_L_edits ["_law_box", "_law_most"]
  d_L_whole : Def K mg "_law_whole" s_L_whole ["_law_found"]
  d_L_same : Def K mg "_law_same" s_L_same ["_law_found", "_law_due"]
  d_L_script : Def K mg "_law_script" s_L_script ["_law_edits_here"]
  d_law : Def K mg "law" s_law ["_law_script_here"]
  lam_law : LamT K mg base tb "law" ("law" ++ ".<locals>." ++ "<lambda>")
def g_Merge___init__ : SM := (sSeq (sFldI 0 "Merge" "first" (eVar 1))
    (sFldI 0 "Merge" "second" (eVar 2)))
def m_Merge___init__ : List D → Bx → R (List (Str × D)) := runI "Merge" 3 3 g_Merge___init__

theorem fs_ne : ¬ (("first" : Str) = "second") := by decide +kernel
theorem init_mg (a b : D) (w : Bx) : m_Merge___init__ [a, b] w = .ok [("first", a), ("second", b)] w := by
  have h : g_Merge___init__ (startI 3 "Merge" [a, b]) w = .nx [some (.ins "Merge" [("first", a), ("second", b)]), some (.dat a), some (.dat b)] w := by
    unfold g_Merge___init__
    refine x_seqZ (x_fldI (fl := []) (d := a) (w1 := w) rfl insAt_cons ⟨by decide, rfl⟩) (S1' := [some (.ins "Merge" [("first", a)]), some (.dat a), some (.dat b)]) rfl ?_
    rw [x_fldI (fl := [("first", a)]) (d := b) (w1 := w) rfl insAt_cons ⟨by simp, rfl⟩]
    simp [putD, fs_ne]
  unfold m_Merge___init__ runI
  rw [if_pos (show [a, b].length + 1 = 3 from rfl), h]
  exact endI_ins
theorem x_mkMg {fs : AM} {S : SL} {w w1 : Bx} {a b : List Ed} (h : fs S w = .ok [scD a, scD b] w1) : eMake "Merge" (nEq 2) m_Merge___init__ fs S w = .ok (mgD a b) w1 := x_make h rfl (init_mg _ _ w1)

def g_Script___contains__ : SM := (sRet (eBin mIn (eVar 1) (e1 (fldD "Script" "kept") (eVar 0))))
def m_Script___contains__ : List D → Bx → R D := runF 2 2 g_Script___contains__

theorem sc_keptC (es : List Ed) : fldD "Script" "kept" (scD es) = some (.lst (es.map edD)) := by
  unfold fldD scD; simp [List.lookup]
theorem in_lst {d : D} {ds : List D} {n m : Nat} (hd : niceN n d) (hn : n ≤ 64) (h : niceN m (.lst ds)) (hm : m ≤ 64) : ∃ b : Bool, mIn d (.lst ds) = some (.bl b) := by
  obtain ⟨p, p1, p2⟩ := nice_shp hd hn
  obtain ⟨q, q1, q2⟩ := nice_shp h hm
  rw [toPy] at q1
  obtain ⟨ps, _, rfl⟩ := Option.map_eq_some_iff.mp q1
  have e : inB d (.lst ds) = some (ps.any fun z => PyData.eqv z p) := by
    cases d <;> simp only [inB, p2, q2, Option.bind_some]
  exact ⟨_, by unfold mIn; rw [e]; rfl⟩
theorem sccont_ok (e : Ed) (es : List Ed) {b : Bool} (h : mIn (edD e) (.lst (es.map edD)) = some (.bl b)) (w : Bx) : m_Script___contains__ [scD es, edD e] w = .ok (.bl b) w :=
  x_run rfl (x_ret (p_bin rfl (x_e1 rfl (sc_keptC es)) h))

def g_Script___eq__ : SM := (sRet (eAndM (e1 (mIsG isg_Script) (eVar 1)) (eBin mEq (e1 (fldD "Script" "kept") (eVar 0)) (e1 (fldD "Script" "kept") (eVar 1)))))
def m_Script___eq__ : List D → Bx → R D := runF 2 2 g_Script___eq__

theorem sc_keptQ (es : List Ed) : fldD "Script" "kept" (scD es) = some (.lst (es.map edD)) := by
  unfold fldD scD; simp [List.lookup]
theorem isg_sc (es : List Ed) : mIsG isg_Script (scD es) = some (.bl true) := by
  have : isg_Script.lookup ("Script" : Str) = some true := by decide +kernel
  show (isg_Script.lookup ("Script" : Str)).map D.bl = _
  rw [this]; rfl
theorem sceq_ok (a b : List Ed) {r : Bool} (h : mEq (.lst (a.map edD)) (.lst (b.map edD)) = some (.bl r)) (w : Bx) : m_Script___eq__ [scD a, scD b] w = .ok (.bl r) w :=
  x_run rfl (x_ret (x_eandT (x_e1 rfl (isg_sc b)) (p_bin (x_e1 rfl (sc_keptQ a)) (x_e1 rfl (sc_keptQ b)) h)))
theorem nice_low {s : Str} {n : Nat} (h : PyData.strOk s = true) : niceN n (.str s) := by cases n <;> exact h
theorem nice_pl {p : Pl} (h : PlOk p) (n : Nat) : niceN (n + 1) (plD p) := nice_tupl (nice_cons (nice_tx (fun c hc => by simp only [List.mem_singleton] at hc; subst hc; exact h.1) n) (nice_cons (by cases n <;> trivial) (nice_cons (nice_low (by unfold endS; cases p.fr <;> decide +kernel)) nice_nil)))
theorem nice_ed {e : Ed} (h : EdOk e) (n : Nat) : niceN (n + 2) (edD e) := by
  have one : ∀ {c : Nat}, AB c → niceN (n + 1) (.str (tx [c])) := fun hc => nice_tx (fun c hx => by simp only [List.mem_singleton] at hx; subst hx; exact hc) (n + 1)
  cases e with
  | keep => exact nice_tupl (nice_cons (nice_low (by decide +kernel)) nice_nil)
  | pre c => exact nice_tupl (nice_cons (nice_low (by decide +kernel)) (nice_cons (one h) nice_nil))
  | app c => exact nice_tupl (nice_cons (nice_low (by decide +kernel)) (nice_cons (one h) nice_nil))
  | at_ k p =>
    cases k with
    | bef c => exact nice_tupl (nice_cons (nice_low (by decide +kernel)) (nice_cons (nice_pl h.2 n) (nice_cons (one h.1) nice_nil)))
    | aft c => exact nice_tupl (nice_cons (nice_low (by decide +kernel)) (nice_cons (nice_pl h.2 n) (nice_cons (one h.1) nice_nil)))
    | rem => exact nice_tupl (nice_cons (nice_low (by decide +kernel)) (nice_cons (nice_pl h.2 n) nice_nil))
    | flp => exact nice_tupl (nice_cons (nice_low (by decide +kernel)) (nice_cons (nice_pl h.2 n) nice_nil))
theorem rig_ed (e : Ed) : rig (edD e) = true := by
  cases e with
  | at_ k p => cases k <;> rfl
  | _ => rfl
theorem nice_eds {es : List Ed} (h : ∀ e ∈ es, EdOk e) : niceN 3 (.lst (es.map edD)) := nice_list fun x hx => by
  obtain ⟨e, he, rfl⟩ := List.mem_map.mp hx
  exact nice_ed (h e he) 0
theorem rig_eds (es : List Ed) : rig (.lst (es.map edD)) = true := by
  show rigs _ = true
  exact rigs_map fun e _ => rig_ed e
def g_is_symbol : SM := (sRet (eBin mIn (eVar 0) (eTup (aCons (eC (.str "a")) (aCons (eC (.str "b")) aNil)))))
def m_is_symbol : List D → Bx → R D := runF 1 1 g_is_symbol

theorem is_symbol_ok {d : D} (h : nice1 d) (w : Bx) : m_is_symbol [d] w = .ok (.bl (isSym d)) w := by
  have h1 : mIn d (.tup [.str "a", .str "b"]) = some (.bl (isSym d)) := in_str2 h (by decide +kernel)
  exact x_run rfl (by unfold g_is_symbol; walk_at "y_ev")

def g_is_place : SM := (sSeq (sIf (tOrM (tNotM (tOf (e1 (mIsi "tuple") (eVar 0)))) (tOf (eBin mNe (eB mLen (aCons (eVar 0) aNil)) (eC (.int 3))))) (sRet (eC (.bl false))) sNil)
    (sSeq (sAsg (eVar 0) (gTupM (gsCons (gSet 1) (gsCons (gSet 2) (gsCons (gSet 3) gsNil)))))
    (sRet (eAndM (eCall 1 m_is_symbol (aCons (eVar 1) aNil)) (eAndM (eBin mIn (eVar 2) (eC (.tup [(.int 1), (.int 2)]))) (eAndM (eNotM (e1 (mIsi "bool") (eVar 2))) (eBin mIn (eVar 3) (eC (.tup [(.str "front"), (.str "back")])))))))))
def m_is_place : List D → Bx → R D := runF 1 4 g_is_place

theorem is_place_ok {d : D} (h : nice2 d) (w : Bx) : m_is_place [d] w = .ok (.bl (isPl d)) w := by
  cases d with
  | non => exact show m_is_place [_] w = .ok (.bl false) w from x_run rfl (by unfold g_is_place; walk_at "y_ev")
  | bl b => exact show m_is_place [_] w = .ok (.bl false) w from x_run rfl (by unfold g_is_place; walk_at "y_ev")
  | int b => exact show m_is_place [_] w = .ok (.bl false) w from x_run rfl (by unfold g_is_place; walk_at "y_ev")
  | str b => exact show m_is_place [_] w = .ok (.bl false) w from x_run rfl (by unfold g_is_place; walk_at "y_ev")
  | lst b => exact show m_is_place [_] w = .ok (.bl false) w from x_run rfl (by unfold g_is_place; walk_at "y_ev")
  | tup ds =>
    have hn := h.2 ds rfl
    match ds, hn with
    | [], hn => exact show m_is_place [_] w = .ok (.bl false) w from x_run rfl (by unfold g_is_place; walk_at "y_ev")
    | [a], hn =>
      have hl : mLen [.tup [a]] = some (.int 1) := rfl
      exact show m_is_place [_] w = .ok (.bl false) w from x_run rfl (by unfold g_is_place; walk_at "y_ev")
    | [a, b], hn =>
      have hl : mLen [.tup [a, b]] = some (.int 2) := rfl
      exact show m_is_place [_] w = .ok (.bl false) w from x_run rfl (by unfold g_is_place; walk_at "y_ev")
    | [a, b, c], hn =>
      have hl : mLen [.tup [a, b, c]] = some (.int 3) := rfl
      have ha := hn a (by simp)
      have hb := hn b (by simp)
      have hc := hn c (by simp)
      have k1 := is_symbol_ok ha w
      have k2 := in_12 hb
      have k4 : mIn c (.tup [.str "front", .str "back"]) = some (.bl (strEq "front" c || strEq "back" c)) := in_str2 hc (by decide +kernel)
      obtain ⟨t, k3⟩ := nice_ty hb
      have k3 := isi_of (T := "bool") k3
      have e : isPl (.tup [a, b, c]) = (isSym a && (in12 b && (!(isSub t "bool") && (strEq "front" c || strEq "back" c)))) := by
        show (isSym a && (isNum b && _)) = _
        congr 1
        cases b with
        | int i => rename_i k; cases (Option.some.inj k); rfl
        | bl i => rename_i k; cases (Option.some.inj k); cases i <;> rfl
        | _ => rfl
      rw [e]
      refine x_run rfl (x_seq (S1 := startS 4 [.tup [a, b, c]]) (w1 := w) (by walk_at "y_ev") (x_seq (x_asg (d := .tup [a, b, c]) (w1 := w) rfl rfl) (x_ret ?_)))
      generalize isSym a = b1 at *
      generalize in12 b = b2 at *
      generalize isSub t "bool" = b3 at *
      generalize (strEq "front" c || strEq "back" c) = b4 at *
      cases b1 with
      | false => show _ = R.ok (D.bl false) w; walk_at "y_ev"
      | true =>
        cases b2 with
        | false => show _ = R.ok (D.bl false) w; walk_at "y_ev"
        | true =>
          cases b3 with
          | true => show _ = R.ok (D.bl false) w; walk_at "y_ev"
          | false => show _ = R.ok (D.bl b4) w; walk_at "y_ev"
    | a :: b :: c :: e :: r, hn =>
      have hl : mLen [.tup (a :: b :: c :: e :: r)] = some (.int ((r.length + 4 : Nat) : Int)) := rfl
      have hk : mNe (.int ((r.length + 4 : Nat) : Int)) (.int 3) = some (.bl true) := by simp [mNe, eqB]; omega
      exact show m_is_place [_] w = .ok (.bl false) w from x_run rfl (by unfold g_is_place; walk_at "y_ev")
  | box => obtain ⟨p, e⟩ := h.1; cases (shp_some e).1
  | obj _ _ => obtain ⟨p, e⟩ := h.1; have := (shp_some e).1; rw [toPy] at this; cases this
  | dct _ => obtain ⟨p, e⟩ := h.1; have := (shp_some e).1; rw [toPy] at this; cases this
  | cel _ => obtain ⟨p, e⟩ := h.1; have := (shp_some e).1; rw [toPy] at this; cases this

def g_is_edit : SM := (sSeq (sIf (tOrM (tNotM (tOf (e1 (mIsi "tuple") (eVar 0)))) (tOf (eBin mEq (eB mLen (aCons (eVar 0) aNil)) (eC (.int 0))))) (sRet (eC (.bl false))) sNil)
    (sSeq (sSet 1 (eBin mIx (eVar 0) (eC (.int 0))))
    (sSeq (sIf (tOf (eBin mEq (eVar 1) (eC (.str "keep")))) (sRet (eBin mEq (eB mLen (aCons (eVar 0) aNil)) (eC (.int 1)))) sNil)
    (sSeq (sIf (tOf (eBin mIn (eVar 1) (eTup (aCons (eC (.str "prepend")) (aCons (eC (.str "append")) aNil))))) (sRet (eAndM (eBin mEq (eB mLen (aCons (eVar 0) aNil)) (eC (.int 2))) (eCall 1 m_is_symbol (aCons (eBin mIx (eVar 0) (eC (.int 1))) aNil)))) sNil)
    (sSeq (sIf (tOf (eBin mIn (eVar 1) (eTup (aCons (eC (.str "before")) (aCons (eC (.str "after")) aNil))))) (sRet (eAndM (eBin mEq (eB mLen (aCons (eVar 0) aNil)) (eC (.int 3))) (eAndM (eCall 1 m_is_place (aCons (eBin mIx (eVar 0) (eC (.int 1))) aNil)) (eCall 1 m_is_symbol (aCons (eBin mIx (eVar 0) (eC (.int 2))) aNil))))) sNil)
    (sRet (eAndM (eBin mIn (eVar 1) (eTup (aCons (eC (.str "remove")) (aCons (eC (.str "flip")) aNil)))) (eAndM (eBin mEq (eB mLen (aCons (eVar 0) aNil)) (eC (.int 2))) (eCall 1 m_is_place (aCons (eBin mIx (eVar 0) (eC (.int 1))) aNil))))))))))
def m_is_edit : List D → Bx → R D := runF 1 2 g_is_edit

theorem is_edit_ok {ds : List D} (h : ∀ x ∈ ds, nice2 x) (w : Bx) : m_is_edit [.tup ds] w = .ok (.bl (isEdD ds)) w := by
  cases ds with
  | nil => exact show m_is_edit [_] w = .ok (.bl false) w from x_run rfl (by unfold g_is_edit; walk_at "y_ev")
  | cons a r =>
    have ha := (h a (List.mem_cons_self ..)).1
    have k1 := eq_str (a := "keep") ha (by decide +kernel)
    have k2 := in_str2 (a := "prepend") (b := "append") ha (by decide +kernel)
    have k3 := in_str2 (a := "before") (b := "after") ha (by decide +kernel)
    have k4 := in_str2 (a := "remove") (b := "flip") ha (by decide +kernel)
    show _ = R.ok (D.bl (isEdB (strEq "keep" a) (strEq "prepend" a || strEq "append" a) (strEq "before" a || strEq "after" a) (strEq "remove" a || strEq "flip" a) r)) w
    generalize strEq "keep" a = b1 at *
    generalize (strEq "prepend" a || strEq "append" a) = b2 at *
    generalize (strEq "before" a || strEq "after" a) = b3 at *
    generalize (strEq "remove" a || strEq "flip" a) = b4 at *
    have hl0 : mEq (.int ((r.length + 1 : Nat) : Int)) (.int 0) = some (.bl false) := by simp [mEq, eqB]; omega
    have hl1 : mLen [.tup (a :: r)] = some (.int ((r.length + 1 : Nat) : Int)) := rfl
    have i0 : mIx (.tup (a :: r)) (.int 0) = some a := at_int (xs := a :: r) (by decide) (by simp)
    cases b1 with
    | true =>
      cases r with
      | nil => exact show m_is_edit [_] w = .ok (.bl true) w from x_run rfl (by unfold g_is_edit; walk_at "y_ev")
      | cons b r =>
        have e1 : mEq (.int (((b :: r).length + 1 : Nat) : Int)) (.int 1) = some (.bl false) := by simp [mEq, eqB]; omega
        exact show m_is_edit [_] w = .ok (.bl false) w from x_run rfl (by unfold g_is_edit; walk_at "y_ev")
    | false =>
      cases b2 with
      | true =>
        match r, h, hl0, hl1, i0 with
        | [], h, hl0, hl1, i0 => exact show m_is_edit [_] w = .ok (.bl false) w from x_run rfl (by unfold g_is_edit; walk_at "y_ev")
        | [b], h, hl0, hl1, i0 =>
          have q := is_symbol_ok (h b (by simp)).1 w
          have e1 : mEq (.int (([b].length + 1 : Nat) : Int)) (.int 2) = some (.bl true) := by simp [mEq, eqB]
          exact show m_is_edit [_] w = .ok (.bl (isSym b)) w from x_run rfl (by unfold g_is_edit; walk_at "y_ev")
        | b :: c :: r, h, hl0, hl1, i0 =>
          have e1 : mEq (.int (((b :: c :: r).length + 1 : Nat) : Int)) (.int 2) = some (.bl false) := by simp [mEq, eqB]; omega
          exact show m_is_edit [_] w = .ok (.bl false) w from x_run rfl (by unfold g_is_edit; walk_at "y_ev")
      | false =>
        cases b3 with
        | true =>
          match r, h, hl0, hl1, i0 with
          | [], h, hl0, hl1, i0 => exact show m_is_edit [_] w = .ok (.bl false) w from x_run rfl (by unfold g_is_edit; walk_at "y_ev")
          | [b], h, hl0, hl1, i0 =>
            have e1 : mEq (.int (([b].length + 1 : Nat) : Int)) (.int 3) = some (.bl false) := by simp [mEq, eqB]
            exact show m_is_edit [_] w = .ok (.bl false) w from x_run rfl (by unfold g_is_edit; walk_at "y_ev")
          | [b, c], h, hl0, hl1, i0 =>
            have q := is_place_ok (h b (by simp)) w
            have q2 := is_symbol_ok (h c (by simp)).1 w
            have e1 : mEq (.int (([b, c].length + 1 : Nat) : Int)) (.int 3) = some (.bl true) := by simp [mEq, eqB]
            show _ = R.ok (D.bl (isPl b && isSym c)) w
            generalize isPl b = b5 at *
            cases b5 with
            | true => exact show m_is_edit [_] w = .ok (.bl (isSym c)) w from x_run rfl (by unfold g_is_edit; walk_at "y_ev")
            | false => exact show m_is_edit [_] w = .ok (.bl false) w from x_run rfl (by unfold g_is_edit; walk_at "y_ev")
          | b :: c :: d :: r, h, hl0, hl1, i0 =>
            have e1 : mEq (.int (((b :: c :: d :: r).length + 1 : Nat) : Int)) (.int 3) = some (.bl false) := by simp [mEq, eqB]; omega
            exact show m_is_edit [_] w = .ok (.bl false) w from x_run rfl (by unfold g_is_edit; walk_at "y_ev")
        | false =>
          cases b4 with
          | false => exact show m_is_edit [_] w = .ok (.bl false) w from x_run rfl (by unfold g_is_edit; walk_at "y_ev")
          | true =>
            match r, h, hl0, hl1, i0 with
            | [], h, hl0, hl1, i0 => exact show m_is_edit [_] w = .ok (.bl false) w from x_run rfl (by unfold g_is_edit; walk_at "y_ev")
            | [b], h, hl0, hl1, i0 =>
              have q := is_place_ok (h b (by simp)) w
              have e1 : mEq (.int (([b].length + 1 : Nat) : Int)) (.int 2) = some (.bl true) := by simp [mEq, eqB]
              exact show m_is_edit [_] w = .ok (.bl (isPl b)) w from x_run rfl (by unfold g_is_edit; walk_at "y_ev")
            | b :: c :: r, h, hl0, hl1, i0 =>
              have e1 : mEq (.int (((b :: c :: r).length + 1 : Nat) : Int)) (.int 2) = some (.bl false) := by simp [mEq, eqB]; omega
              exact show m_is_edit [_] w = .ok (.bl false) w from x_run rfl (by unfold g_is_edit; walk_at "y_ev")

def lb_Script___init___0 : SM := (sIf (tNotM (tOf (eCall 1 m_is_edit (aCons (eVar 3) aNil)))) (sRaise "InvalidEdit" "at" "InvalidEdit" (eVar 2)) sNil)
def g_Script___init__ : SM := (sSeq (sFor (iEnumT (eVar 1)) (gTupM (gsCons (gSet 2) (gsCons (gSet 3) gsNil))) lb_Script___init___0)
    (sSeq (sIf (tOf (eBin (mI fun i j => decide (j < i)) (eB mLen (aCons (eVar 1) aNil)) (eC (.int 4)))) (sRaise "TooLong" "most" "TooLong" (eC (.int 4))) sNil)
    (sFldI 0 "Script" "kept" (eFrz (oB mList (aCons (eVar 1) aNil))))))
def m_Script___init__ : List D → Bx → R (List (Str × D)) := fun ds w => runI "Script" 2 4 g_Script___init__ [.tup ds] w

theorem init_sc (es : List Ed) (he : ∀ e ∈ es, Ed12 e) (hn : es.length ≤ 4) (w : Bx) : m_Script___init__ (es.map edD) w = .ok [("kept", .lst (es.map edD))] w := by
  obtain ⟨S2, e2, s2, s3, rfl⟩ := x_forW (w := w) (gm := gTupM (gsCons (gSet 2) (gsCons (gSet 3) gsNil))) (body := lb_Script___init___0) (fun S => ∃ s2 s3 : Option D, S = [some (.ins "Script" []), some (.dat (.tup (es.map edD))), s2.map .dat, s3.map .dat]) (numbered (es.map edD)) [some (.ins "Script" []), some (.dat (.tup (es.map edD))), none, none] ⟨none, none, rfl⟩ (fun x hx S h => by
    obtain ⟨s2, s3, rfl⟩ := h
    obtain ⟨i, d, rfl, hd⟩ := num_mem hx
    obtain ⟨e, hm, rfl⟩ := List.mem_map.mp hd
    obtain ⟨ds, e1, e2, e3⟩ := ed_is (he e hm).1 (he e hm).2
    have q := is_edit_ok (fun x hx => nice2_ofN (e2 x hx)) w
    rw [← e1, e3] at q
    refine ⟨[some (.ins "Script" []), some (.dat (.tup (es.map edD))), some (.dat (.int (i : Int))), some (.dat (edD e))], [some (.ins "Script" []), some (.dat (.tup (es.map edD))), some (.dat (.int (i : Int))), some (.dat (edD e))], rfl, ?_, some (.int (i : Int)), some (edD e), rfl⟩
    exact x_ifF (w1 := w) (x_notT (x_tOf (x_call (p_cons rfl x_nil) rfl q))) rfl)
  have hl : mLen [.tup (es.map edD)] = some (.int ((es.map edD).length : Int)) := rfl
  have hc : (mI fun i j => decide (j < i)) (.int ((es.map edD).length : Int)) (.int 4) = some (.bl false) := by
    show some (D.bl (decide ((4 : Int) < _))) = _
    rw [decide_eq_false (by rw [List.length_map]; omega)]
  have h : g_Script___init__ (startI 4 "Script" [.tup (es.map edD)]) w = .nx [some (.ins "Script" [("kept", .lst (es.map edD))]), some (.dat (.tup (es.map edD))), s2.map .dat, s3.map .dat] w := by
    unfold g_Script___init__
    refine p_seq (x_for (x_enumT (w1 := w) rfl) e2) (p_seq (x_ifF (w1 := w) (x_tOf (p_bin (x_B (p_cons rfl x_nil) hl) rfl hc)) rfl) ?_)
    rw [x_fldI (fl := []) (d := .lst (es.map edD)) (w1 := w) (x_frz (x_oB (p_cons rfl x_nil) rfl)) insAt_cons ⟨by decide, by cases s2 <;> cases s3 <;> rfl⟩]
    rfl
  show runI "Script" 2 4 g_Script___init__ [.tup (es.map edD)] w = _
  unfold runI
  rw [if_pos (show [D.tup (es.map edD)].length + 1 = 2 from rfl), h]
  exact endI_ins
theorem x_mkSc {fs : AM} {S : SL} {w w1 : Bx} {es : List Ed} (h : fs S w = .ok (es.map edD) w1) (he : ∀ e ∈ es, Ed12 e) (hn : es.length ≤ 4) : eMake "Script" (nLe 1000) m_Script___init__ fs S w = .ok (scD es) w1 := x_make h (by rw [List.length_map]; exact Nat.ble_eq.mpr (by omega)) (init_sc es he hn w1)
theorem init_long (es : List Ed) (he : ∀ e ∈ es, Ed12 e) (hn : 4 < es.length) (w : Bx) : m_Script___init__ (es.map edD) w = .err "TooLong" [("tag", .str "TooLong"), ("most", .int 4)] w := by
  obtain ⟨S2, e2, s2, s3, rfl⟩ := x_forW (w := w) (gm := gTupM (gsCons (gSet 2) (gsCons (gSet 3) gsNil))) (body := lb_Script___init___0) (fun S => ∃ s2 s3 : Option D, S = [some (.ins "Script" []), some (.dat (.tup (es.map edD))), s2.map .dat, s3.map .dat]) (numbered (es.map edD)) [some (.ins "Script" []), some (.dat (.tup (es.map edD))), none, none] ⟨none, none, rfl⟩ (fun x hx S h => by
    obtain ⟨s2, s3, rfl⟩ := h
    obtain ⟨i, d, rfl, hd⟩ := num_mem hx
    obtain ⟨e, hm, rfl⟩ := List.mem_map.mp hd
    obtain ⟨ds, e1, e2, e3⟩ := ed_is (he e hm).1 (he e hm).2
    have q := is_edit_ok (fun x hx => nice2_ofN (e2 x hx)) w
    rw [← e1, e3] at q
    refine ⟨[some (.ins "Script" []), some (.dat (.tup (es.map edD))), some (.dat (.int (i : Int))), some (.dat (edD e))], [some (.ins "Script" []), some (.dat (.tup (es.map edD))), some (.dat (.int (i : Int))), some (.dat (edD e))], rfl, ?_, some (.int (i : Int)), some (edD e), rfl⟩
    exact x_ifF (w1 := w) (x_notT (x_tOf (x_call (p_cons rfl x_nil) rfl q))) rfl)
  have hl : mLen [.tup (es.map edD)] = some (.int ((es.map edD).length : Int)) := rfl
  have hc : (mI fun i j => decide (j < i)) (.int ((es.map edD).length : Int)) (.int 4) = some (.bl true) := by
    show some (D.bl (decide ((4 : Int) < _))) = _
    rw [decide_eq_true (by rw [List.length_map]; omega)]
  have h : g_Script___init__ (startI 4 "Script" [.tup (es.map edD)]) w = .err [some (.ins "Script" []), some (.dat (.tup (es.map edD))), s2.map .dat, s3.map .dat] "TooLong" [("tag", .str "TooLong"), ("most", .int 4)] w := by
    unfold g_Script___init__
    exact p_seq (x_for (x_enumT (w1 := w) rfl) e2) (x_seqE (x_ifTE (x_raise (w1 := w) rfl) (x_tOf (p_bin (x_B (p_cons rfl x_nil) hl) rfl hc))))
  exact x_runIE (ds := [D.tup (es.map edD)]) rfl h
theorem x_mkLong {fs : AM} {S : SL} {w w1 : Bx} {es : List Ed} (h : fs S w = .ok (es.map edD) w1) (he : ∀ e ∈ es, Ed12 e) (hn : 4 < es.length) (h2 : es.length ≤ 1000) : eMake "Script" (nLe 1000) m_Script___init__ fs S w = .err "TooLong" [("tag", .str "TooLong"), ("most", .int 4)] w1 :=
  x_makeE h (by rw [List.length_map]; exact Nat.ble_eq.mpr h2) (init_long es he hn w1)
theorem num_range (ds : List D) : Y.numbered ds = (List.range ds.length).map fun i => .tup [.int (i : Int), ds.getD i .non] := by
  apply List.ext_getElem?
  intro i
  unfold Y.numbered
  rw [List.getElem?_map, List.getElem?_map]
  by_cases h : i < ds.length
  · rw [List.getElem?_range h, List.getElem?_eq_getElem (by simp [h])]
    simp [List.getD, h]
  · rw [List.getElem?_eq_none (by simp; omega), List.getElem?_eq_none (by simp; omega)]; rfl
theorem init_badAt {ds : List D} {n : Nat} {w : Bx} (hn : n < ds.length) (hg : ∀ i, i < n → m_is_edit [ds.getD i .non] w = .ok (.bl true) w) (hb : m_is_edit [ds.getD n .non] w = .ok (.bl false) w) : m_Script___init__ ds w = .err "InvalidEdit" [("tag", .str "InvalidEdit"), ("at", .int (n : Int))] w := by
  obtain ⟨S2, e2⟩ := x_forNE (gm := gTupM (gsCons (gSet 2) (gsCons (gSet 3) gsNil))) (body := lb_Script___init___0) (c := "InvalidEdit") (fs := [("tag", .str "InvalidEdit"), ("at", .int (n : Int))]) (we := w)
    (fun i => .tup [.int (i : Int), ds.getD i .non]) (fun _ S w' => w' = w ∧ ∃ s2 s3 : Option D, S = [some (.ins "Script" []), some (.dat (.tup ds)), s2.map .dat, s3.map .dat]) n ds.length hn
    (S := [some (.ins "Script" []), some (.dat (.tup ds)), none, none]) (w := w) ⟨rfl, none, none, rfl⟩ (fun i S w' hi h => by
      obtain ⟨rfl, s2, s3, rfl⟩ := h
      refine ⟨[some (.ins "Script" []), some (.dat (.tup ds)), some (.dat (.int (i : Int))), some (.dat (ds.getD i .non))], [some (.ins "Script" []), some (.dat (.tup ds)), some (.dat (.int (i : Int))), some (.dat (ds.getD i .non))], w', rfl, ?_, rfl, some (.int (i : Int)), some (ds.getD i .non), rfl⟩
      exact x_ifF (w1 := w') (x_notT (x_tOf (x_call (p_cons rfl x_nil) rfl (hg i hi)))) rfl) (fun S w' h => by
      obtain ⟨rfl, s2, s3, rfl⟩ := h
      refine ⟨[some (.ins "Script" []), some (.dat (.tup ds)), some (.dat (.int (n : Int))), some (.dat (ds.getD n .non))], [some (.ins "Script" []), some (.dat (.tup ds)), some (.dat (.int (n : Int))), some (.dat (ds.getD n .non))], rfl, ?_⟩
      exact x_ifTE (x_raise (w1 := w') rfl) (x_notF (x_tOf (x_call (p_cons rfl x_nil) rfl hb))))
  rw [← num_range] at e2
  have h : g_Script___init__ (startI 4 "Script" [.tup ds]) w = .err S2 "InvalidEdit" [("tag", .str "InvalidEdit"), ("at", .int (n : Int))] w := by
    unfold g_Script___init__
    exact x_seqE (x_for (x_enumT (w1 := w) rfl) e2)
  exact x_runIE (ds := [D.tup ds]) rfl h
theorem isedit_ok {e : Ed} (h : Ed12 e) (w : Bx) : m_is_edit [edD e] w = .ok (.bl true) w := by
  obtain ⟨ds, e1, e2, e3⟩ := ed_is h.1 h.2
  have q := is_edit_ok (fun x hx => nice2_ofN (e2 x hx)) w
  rw [← e1, e3] at q
  exact q
theorem bad_edit {d : D} (h : d ∈ [D.tup [], .tup [.str "jump"], .tup [.str "flip", .tup [.str "a", .int 3, .str "back"]], .tup [.str "append", .str "c"]]) (w : Bx) : m_is_edit [d] w = .ok (.bl false) w := by
  simp only [List.mem_cons, List.not_mem_nil, or_false] at h
  have sk : ∀ {s : Str}, PyData.strOk s = true → nice2 (.str s) := fun h => nice2_ofN (n := 1) h
  rcases h with rfl | rfl | rfl | rfl
  · exact is_edit_ok (ds := []) (fun x hx => nomatch hx) w
  · have q := is_edit_ok (ds := [.str "jump"]) (fun x hx => by rw [List.mem_singleton.mp hx]; exact sk (by decide +kernel)) w
    rw [show isEdD [.str "jump"] = false by decide +kernel] at q
    exact q
  · have q := is_edit_ok (ds := [.str "flip", .tup [.str "a", .int 3, .str "back"]]) (fun x hx => by
      simp only [List.mem_cons, List.not_mem_nil, or_false] at hx
      rcases hx with rfl | rfl
      · exact sk (by decide +kernel)
      · exact nice2_ofN (n := 2) (nice_tupl (nice_cons (show PyData.strOk "a" = true by decide +kernel) (nice_cons trivial (nice_cons (show PyData.strOk "back" = true by decide +kernel) nice_nil))))) w
    rw [show isEdD [.str "flip", .tup [.str "a", .int 3, .str "back"]] = false by decide +kernel] at q
    exact q
  · have q := is_edit_ok (ds := [.str "append", .str "c"]) (fun x hx => by
      simp only [List.mem_cons, List.not_mem_nil, or_false] at hx
      rcases hx with rfl | rfl
      · exact sk (by decide +kernel)
      · exact sk (by decide +kernel)) w
    rw [show isEdD [.str "append", .str "c"] = false by decide +kernel] at q
    exact q

def g_Script___len__ : SM := (sRet (eB mLen (aCons (e1 (fldD "Script" "kept") (eVar 0)) aNil)))
def m_Script___len__ : List D → Bx → R D := runF 1 1 g_Script___len__

theorem sc_keptL (es : List Ed) : fldD "Script" "kept" (scD es) = some (.lst (es.map edD)) := by
  unfold fldD scD; simp [List.lookup]
theorem sclen_ok (es : List Ed) (h : es.length ≤ 1000) (w : Bx) : m_Script___len__ [scD es] w = .ok (.int (es.length : Int)) w := by
  have e : mLen [.lst (es.map edD)] = some (.int (es.length : Int)) := by
    show some (D.int ((es.map edD).length : Int)) = _
    rw [List.length_map]
  exact x_run rfl (x_ret (x_B (p_cons (x_e1 rfl (sc_keptL es)) x_nil) e))

def g_Script___repr__ : SM := (sRet (eJoin [(eC (.str "Script(")), (e1 mFmt (eB mLen (aCons (e1 (fldD "Script" "kept") (eVar 0)) aNil))), (eC (.str " edits)"))]))
def m_Script___repr__ : List D → Bx → R D := runF 1 1 g_Script___repr__

theorem fmt_smallS : ∀ n : Nat, n ≤ 8 → mFmt (.int (n : Int)) = some (.str (toString (n : Int))) := fun n hn => by
  show (if _ then _ else _) = _
  rw [if_pos]
  have : n = 0 ∨ n = 1 ∨ n = 2 ∨ n = 3 ∨ n = 4 ∨ n = 5 ∨ n = 6 ∨ n = 7 ∨ n = 8 := by omega
  rcases this with rfl | rfl | rfl | rfl | rfl | rfl | rfl | rfl | rfl <;> decide
theorem str_smallS : ∀ n : Nat, n ≤ 8 → (toString (n : Int) : Str).length ≤ 20 := fun n hn => by
  have : n = 0 ∨ n = 1 ∨ n = 2 ∨ n = 3 ∨ n = 4 ∨ n = 5 ∨ n = 6 ∨ n = 7 ∨ n = 8 := by omega
  rcases this with rfl | rfl | rfl | rfl | rfl | rfl | rfl | rfl | rfl <;> decide +kernel
theorem mstr_smallS (n : Nat) (hn : n ≤ 8) : mStr [.int (n : Int)] = some (.str (toString (n : Int))) := by
  show (if _ then _ else _) = _
  rw [if_pos]
  have : n = 0 ∨ n = 1 ∨ n = 2 ∨ n = 3 ∨ n = 4 ∨ n = 5 ∨ n = 6 ∨ n = 7 ∨ n = 8 := by omega
  rcases this with rfl | rfl | rfl | rfl | rfl | rfl | rfl | rfl | rfl <;> decide
theorem add_strsS {x y : Str} (h : x.length + y.length ≤ 16777216) : mAdd (.str x) (.str y) = some (.str (x ++ y)) := by
  show (if _ then _ else _) = _
  rw [if_pos (show _ ≤ sizeN from h)]
theorem screpr_ok (a : List Ed) (na : a.length ≤ 8) (w : Bx) : m_Script___repr__ [scD a] w = .ok (.str (Str.empty ++ "Script(" ++ toString (a.length : Int) ++ " edits)")) w := by
  have l1 : mLen [.lst (a.map edD)] = some (.int (a.length : Int)) := by show some (D.int ((a.map edD).length : Int)) = _; rw [List.length_map]
  have k1 : fldD "Script" "kept" (scD a) = some (.lst (a.map edD)) := by unfold fldD scD; simp [List.lookup]
  have s1 := str_smallS _ na
  refine x_run rfl (x_ret (x_fstr (x_js rfl ?_ (x_js (x_e1 (x_B (p_cons (x_e1 rfl k1) x_nil) l1) (fmt_smallS _ na)) ?_ (x_js rfl ?_ x_js0)))))
  all_goals
    simp only [strLen_append]
    have c0 : Str.empty.length = 0 := by decide +kernel
    have c1 : ("Script(" : Str).length = 7 := by decide +kernel
    have c3 : (" edits)" : Str).length = 7 := by decide +kernel
    show _ ≤ 16777216
    omega
theorem scrtext_ok (a : List Ed) (na : a.length ≤ 4) : ∃ t : Str, (∀ w, m_Script___repr__ [scD a] w = .ok (.str t) w) ∧ ∃ t1 : Str, mAdd (.str "Script(") (.str (toString (a.length : Int))) = some (.str t1) ∧ mAdd (.str t1) (.str " edits)") = some (.str t) := by
  have s1 := str_smallS a.length (by omega)
  have c1 : ("Script(" : Str).length = 7 := by decide +kernel
  have c3 : (" edits)" : Str).length = 7 := by decide +kernel
  refine ⟨_, fun w => screpr_ok a (by omega) w, "Script(" ++ toString (a.length : Int), add_strsS (by omega), ?_⟩
  have e : ∀ x : Str, Str.empty ++ x = x := fun x => by
    cases x with
    | mk c => show Str.mk (#[] ++ c) = _; rw [Array.empty_append]
  rw [e]
  exact add_strsS (by simp only [strLen_append]; omega)

def g_Script_edits : SMO := (oRet (oB mList (aCons (e1 (fldD "Script" "kept") (eVar 0)) aNil)))
def mO_Script_edits : List D → Bx → R (List D) := runFO 1 1 g_Script_edits
def m_Script_edits : List D → Bx → R D := frzM mO_Script_edits

theorem kept_neE (m : Str) (a : D) (h : (m == ("kept" : Str)) = false) : isObj "Script" m (.obj "Script" [("kept", a)]) = true := by
  unfold Y.isObj
  simp [List.lookup, h]
theorem editsO_sc (es : List Ed) (w : Bx) : mO_Script_edits [scD es] w = .ok (es.map edD) w := x_runFO rfl (x_oRet (x_oB (p_cons (x_e1 rfl (sc_kept _)) x_nil) rfl))
theorem edits_sc (es : List Ed) (h : es.length ≤ 1000) (w : Bx) : m_Script_edits [scD es] w = .ok (.lst (es.map edD)) w := frz_ok (editsO_sc es w)
theorem x_editsSc {fo : EM} {S : SL} {w w1 : Bx} {es : List Ed} (h : fo S w = .ok (scD es) w1) (hn : es.length ≤ 1000) : eMeth "Script" "edits" 1 m_Script_edits fo aNil S w = .ok (.lst (es.map edD)) w1 :=
  x_meth (ds := []) h (kept_neE _ _ (by decide +kernel)) x_nil rfl (edits_sc es hn w1)
theorem plain_eds (es : List Ed) (h : es.length ≤ 1000) (n : Nat) : plainD (n + 4) (.lst (es.map edD)) := ⟨by rw [List.length_map]; omega, fun x hx => by
  obtain ⟨e, _, rfl⟩ := List.mem_map.mp hx
  exact plain_ed e n⟩

def g_L_draw : SM := (sSeq (sIf (tAndM (tOf (eBin mEq (eBx 0 2) (eC (.int 0)))) (tOf (eBin mLt (eBx 0 1) (eB mLen (aCons (eBx 0 0) aNil))))) (sSeq (sSet 2 (eBin mIx (eBx 0 0) (eBx 0 1)))
    (sSeq (sBx 0 1 (eBin mAdd (eBx 0 1) (eC (.int 1))))
    (sIf (tOf (eBin (mI fun i j => decide (j ≤ i)) (eVar 2) (eBin mPow (eC (.int 10)) (eC (.int 18))))) (sBx 0 2 (eVar 2)) (sBx 0 3 (eBin mMod (eBin mAdd (eBin mAdd (eBin mMul (eBx 0 3) (eC (.int 69621))) (eBin mMod (eVar 2) (eC (.int 2147483563)))) (eBin mMul (eBx 0 1) (eC (.int 1597)))) (eC (.int 2147483647))))))) sNil)
    (sSeq (sIf (tOf (eBin (mI fun i j => decide (j < i)) (eBx 0 2) (eC (.int 0)))) (sSeq (sSet 3 (eBin mMod (eBx 0 2) (eVar 1)))
    (sSeq (sBx 0 2 (eBin mDiv (eBx 0 2) (eVar 1)))
    (sRet (eVar 3)))) sNil)
    (sSeq (sBx 0 3 (eBin mMod (eBin mAdd (eBin mMul (eBx 0 3) (eC (.int 48271))) (eC (.int 11))) (eC (.int 2147483647))))
    (sRet (eBin mMod (eBin mDiv (eBin mMod (eBin mMul (eBx 0 3) (eBx 0 3)) (eC (.int 998244353))) (eC (.int 13))) (eVar 1))))))
def m_L_draw : List D → Bx → R D := runF 2 4 g_L_draw

theorem pow18 : ∃ c : Int, mPow (.int 10) (.int 18) = some (.int c) ∧ 0 ≤ c := by
  refine ⟨(10 : Int) ^ (18 : Int).toNat, ?_, by decide⟩
  have e : mPow (.int 10) (.int 18) = if (0 : Int) ≤ 18 ∧ (18 : Int) ≤ 1000000 ∧ (10 : Int).natAbs < 2 ^ 64 then some (.int ((10 : Int) ^ (18 : Int).toNat)) else none := rfl
  rw [e, if_pos ⟨by decide, by decide, by decide⟩]
def drawTail : SM := (sSeq (sIf (tOf (eBin (mI fun i j => decide (j < i)) (eBx 0 2) (eC (.int 0)))) (sSeq (sSet 3 (eBin mMod (eBx 0 2) (eVar 1)))
    (sSeq (sBx 0 2 (eBin mDiv (eBx 0 2) (eVar 1)))
    (sRet (eVar 3)))) sNil)
    (sSeq (sBx 0 3 (eBin mMod (eBin mAdd (eBin mMul (eBx 0 3) (eC (.int 48271))) (eC (.int 11))) (eC (.int 2147483647))))
    (sRet (eBin mMod (eBin mDiv (eBin mMod (eBin mMul (eBx 0 3) (eBx 0 3)) (eC (.int 998244353))) (eC (.int 13))) (eVar 1)))))
theorem draw_tail (n : Int) (h0 : 0 < n) (h1 : n < 1073741824) (x : Option SV) (w : Bx) : ∃ r w', drawTail [some (.dat .box), some (.dat (.int n)), x, none] w = .rt (.int r) w' ∧ 0 ≤ r ∧ r < n := by
  by_cases hb : 0 < w.big
  · refine ⟨w.big % n, { w with big := w.big / n }, ?_, Int.emod_nonneg _ (by omega), Int.emod_lt_of_pos _ h0⟩
    have hd : 0 ≤ w.big / n := Int.ediv_nonneg (by omega) (by omega)
    simp [drawTail, sSeq, sIf, sSet, sBx, sRet, tOf, eBin, eBx, eVar, eC, mMod, mDiv, mI, isBox, bxGet, bxPut, hb, h0, h1, hd]
  · have hm0 : 0 ≤ (w.mark * 48271 + 11) % 2147483647 := Int.emod_nonneg _ (by decide)
    have hm1 : (w.mark * 48271 + 11) % 2147483647 < 2147483647 := Int.emod_lt_of_pos _ (by decide)
    refine ⟨((w.mark * 48271 + 11) % 2147483647) * ((w.mark * 48271 + 11) % 2147483647) % 998244353 / 13 % n, { w with mark := (w.mark * 48271 + 11) % 2147483647 }, ?_, Int.emod_nonneg _ (by omega), Int.emod_lt_of_pos _ h0⟩
    · have e1 : (-18446744073709551616 < (w.mark * 48271 + 11) % 2147483647) := by omega
      have e2 : ((w.mark * 48271 + 11) % 2147483647 < 18446744073709551616) := by omega
      simp [drawTail, sSeq, sIf, sSet, sBx, sRet, sNil, tOf, eBin, eBx, eVar, eC, mMod, mDiv, mAdd, mMul, mI, isBox, bxGet, bxPut, hb, h0, hm0, hm1, e1, e2]
theorem draw_ok (w : Bx) (n : Int) (h0 : 0 < n) (h1 : n < 1073741824) : ∃ r w', m_L_draw [.box, .int n] w = .ok (.int r) w' ∧ 0 ≤ r ∧ r < n := by
  obtain ⟨c, p18, c0⟩ := pow18
  have e2 : eBx 0 2 [some (.dat .box), some (.dat (.int n)), none, none] w = .ok (.int w.big) w := rfl
  have e1 : eBx 0 1 [some (.dat .box), some (.dat (.int n)), none, none] w = .ok (.int (w.ix : Int)) w := rfl
  have e0 : eBx 0 0 [some (.dat .box), some (.dat (.int n)), none, none] w = .ok (.lst (w.cells.map D.int)) w := rfl
  have hlen : mLen [.lst (w.cells.map D.int)] = some (.int (w.cells.length : Int)) := by simp [mLen]
  have fin : ∀ (x : Option SV) (w1 : Bx), g_L_draw [some (.dat .box), some (.dat (.int n)), none, none] w = drawTail [some (.dat .box), some (.dat (.int n)), x, none] w1 → ∃ r w', m_L_draw [.box, .int n] w = .ok (.int r) w' ∧ 0 ≤ r ∧ r < n := fun x w1 e => by
    obtain ⟨r, w2, e2, h⟩ := draw_tail n h0 h1 x w1
    exact ⟨r, w2, x_run rfl (e.trans e2), h⟩
  by_cases h2 : w.big = 0
  · have t1 : tOf (eBin mEq (eBx 0 2) (eC (.int 0))) [some (.dat .box), some (.dat (.int n)), none, none] w = .ok true w := by
      refine x_tOf (x_bin e2 rfl ?_)
      simp [mEq, eqB, h2]
    by_cases h3 : w.ix < w.cells.length
    · have t2 : tOf (eBin mLt (eBx 0 1) (eB mLen (aCons (eBx 0 0) aNil))) [some (.dat .box), some (.dat (.int n)), none, none] w = .ok true w := by
        refine x_tOf (x_bin e1 (x_B (x_cons e0 x_nil) hlen) ?_)
        simp [mLt, h3]
      have hg : mIx (.lst (w.cells.map D.int)) (.int (w.ix : Int)) = some (.int w.cells[w.ix]) := atI_nat (by rw [List.getElem?_map, List.getElem?_eq_getElem h3]; rfl)
      have s1 : sSet 2 (eBin mIx (eBx 0 0) (eBx 0 1)) [some (.dat .box), some (.dat (.int n)), none, none] w = .nx [some (.dat .box), some (.dat (.int n)), some (.dat (.int w.cells[w.ix])), none] w := x_set (x_bin e0 e1 hg)
      have s2 : sBx 0 1 (eBin mAdd (eBx 0 1) (eC (.int 1))) [some (.dat .box), some (.dat (.int n)), some (.dat (.int w.cells[w.ix])), none] w = .nx [some (.dat .box), some (.dat (.int n)), some (.dat (.int w.cells[w.ix])), none] { w with ix := w.ix + 1 } := by
        refine x_sbx (x_bin (d := .int (w.ix : Int)) (e := .int 1) (z := .int ((w.ix : Int) + 1)) rfl rfl rfl) rfl ?_
        have q : (((w.ix : Int) + 1).toNat) = w.ix + 1 := by omega
        have q0 : 0 ≤ (w.ix : Int) + 1 := by omega
        simp [bxPut, q, q0]
      by_cases h4 : c ≤ w.cells[w.ix]
      · refine fin (some (.dat (.int w.cells[w.ix]))) { w with ix := w.ix + 1, big := w.cells[w.ix] } ?_
        refine x_seq (x_ifT (x_andT t1 t2) (x_seq s1 (x_seq s2 (x_ifT (x_tOf (x_bin rfl (x_bin rfl rfl p18) ?_)) (x_sbx rfl rfl ?_))))) rfl
        · simp [mI, h4]
        · have h5 : 0 ≤ w.cells[w.ix] := by omega
          simp [bxPut, h5]
      · refine fin (some (.dat (.int w.cells[w.ix]))) { w with ix := w.ix + 1, mark := (w.mark * 69621 + w.cells[w.ix] % 2147483563 + ((w.ix : Int) + 1) * 1597) % 2147483647 } ?_
        refine x_seq (x_ifT (x_andT t1 t2) (x_seq s1 (x_seq s2 (x_ifF (x_tOf (x_bin rfl (x_bin rfl rfl p18) ?_)) (x_sbx (x_bin (x_bin (x_bin (x_bin (d := .int w.mark) (e := .int 69621) rfl rfl (z := .int (w.mark * 69621)) ?_) (x_bin (d := .int w.cells[w.ix]) (e := .int 2147483563) rfl rfl (z := .int (w.cells[w.ix] % 2147483563)) ?_) (z := .int (w.mark * 69621 + w.cells[w.ix] % 2147483563)) rfl) (x_bin (d := .int ((w.ix : Int) + 1)) (e := .int 1597) rfl rfl (z := .int (((w.ix : Int) + 1) * 1597)) ?_) (z := .int (w.mark * 69621 + w.cells[w.ix] % 2147483563 + ((w.ix : Int) + 1) * 1597)) rfl) (e := .int 2147483647) (z := .int ((w.mark * 69621 + w.cells[w.ix] % 2147483563 + ((w.ix : Int) + 1) * 1597) % 2147483647)) rfl ?_) rfl ?_))))) rfl
        · simp [mI, h4]
        · simp [mMul]
        · simp [mMod]
        · simp [mMul]
        · simp [mMod]
        · have hm0 : 0 ≤ (w.mark * 69621 + w.cells[w.ix] % 2147483563 + ((w.ix : Int) + 1) * 1597) % 2147483647 := Int.emod_nonneg _ (by decide)
          have hm1 : (w.mark * 69621 + w.cells[w.ix] % 2147483563 + ((w.ix : Int) + 1) * 1597) % 2147483647 < 2147483647 := Int.emod_lt_of_pos _ (by decide)
          simp [bxPut, hm0, hm1]
    · have t2 : tOf (eBin mLt (eBx 0 1) (eB mLen (aCons (eBx 0 0) aNil))) [some (.dat .box), some (.dat (.int n)), none, none] w = .ok false w := by
        refine x_tOf (x_bin e1 (x_B (x_cons e0 x_nil) hlen) ?_)
        simp [mLt, h3]
      exact fin none w (x_seq (x_ifF (x_andT t1 t2) rfl) rfl)
  · have t1 : tOf (eBin mEq (eBx 0 2) (eC (.int 0))) [some (.dat .box), some (.dat (.int n)), none, none] w = .ok false w := by
      refine x_tOf (x_bin e2 rfl ?_)
      simp [mEq, eqB, h2]
    exact fin none w (x_seq (x_ifF (x_andF t1) rfl) rfl)

def g_L_any : SM := (sRet (eBin mIx (eVar 1) (eCall 2 m_L_draw (aCons (eVar 0) (aCons (eB mLen (aCons (eVar 1) aNil)) aNil)))))
def m_L_any : List D → Bx → R D := runF 2 2 g_L_any

theorem any_lst (w : Bx) (ds : List D) (h0 : ds ≠ []) (h1 : ds.length < 1073741824) : ∃ d w', d ∈ ds ∧ m_L_any [.box, .lst ds] w = .ok d w' := by
  have hp : 0 < ds.length := List.length_pos_iff.mpr h0
  obtain ⟨r, w', e, r0, r1⟩ := draw_ok w (ds.length : Int) (by omega) (by omega)
  have hr : r.toNat < ds.length := by omega
  have hx : mIx (.lst ds) (.int r) = some ds[r.toNat] := at_int r0 hr
  exact ⟨ds[r.toNat], w', List.getElem_mem hr, x_run rfl (x_ret (x_bin rfl (x_call (x_cons rfl (x_cons (x_B (x_cons rfl x_nil) rfl) x_nil)) rfl e) hx))⟩
theorem any_str (w : Bx) (l : List Nat) (h0 : l ≠ []) (h1 : l.length ≤ 16777216) : ∃ c w', c ∈ l ∧ m_L_any [.box, .str (tx l)] w = .ok (.str (tx [c])) w' := by
  have hp : 0 < l.length := List.length_pos_iff.mpr h0
  obtain ⟨r, w', e, r0, r1⟩ := draw_ok w (l.length : Int) (by omega) (by omega)
  have hr : r.toNat < l.length := by omega
  have hx : mIx (.str (tx l)) (.int r) = some (.str (tx [l[r.toNat]])) := by
    unfold mIx
    simp only [tx_len, tx_list]
    rw [if_pos (show l.length ≤ sizeN from h1), at_int r0 hr]
    rfl
  have hl : mLen [.str (tx l)] = some (.int (l.length : Int)) := by
    unfold mLen
    simp only [tx_len]
    rw [if_pos (show l.length ≤ sizeN from h1)]
  exact ⟨l[r.toNat], w', List.getElem_mem hr, x_run rfl (x_ret (x_bin rfl (x_call (x_cons rfl (x_cons (x_B (x_cons rfl x_nil) hl) x_nil)) rfl e) hx))⟩

def g_L_place : SM := (sRet (eTup (aCons (eCall 2 m_L_any (aCons (eVar 0) (aCons (eC (.str "ab")) aNil))) (aCons (eBin mAdd (eC (.int 1)) (eCall 2 m_L_draw (aCons (eVar 0) (aCons (eC (.int 2)) aNil)))) (aCons (eCall 2 m_L_any (aCons (eVar 0) (aCons (eFrz (oLst (aCons (eC (.str "front")) (aCons (eC (.str "back")) aNil)))) aNil))) aNil)))))
def m_L_place : List D → Bx → R D := runF 1 1 g_L_place

theorem place_ok (w : Bx) : ∃ p w', m_L_place [.box] w = .ok (plD p) w' ∧ PlOk p ∧ p.n ≤ 2 := by
  obtain ⟨c, w1, hc, e1⟩ := any_str w [97, 98] (by simp) (by simp)
  obtain ⟨r, w2, e2, r0, r1⟩ := draw_ok w1 2 (by decide) (by decide)
  obtain ⟨d, w3, hd, e3⟩ := any_lst w2 [.str "front", .str "back"] (by simp) (by simp)
  obtain ⟨fr, rfl⟩ : ∃ fr, d = .str (endS fr) := by
    simp only [List.mem_cons, List.not_mem_nil, or_false] at hd
    rcases hd with rfl | rfl
    · exact ⟨true, rfl⟩
    · exact ⟨false, rfl⟩
  obtain ⟨n, rfl⟩ : ∃ n : Nat, r = n := ⟨r.toNat, by omega⟩
  refine ⟨⟨c, n + 1, fr⟩, w3, ?_, ⟨by simpa [AB] using hc, by simp, by show n + 1 ≤ 3; omega⟩, by show n + 1 ≤ 2; omega⟩
  refine x_run rfl (x_ret ?_)
  rw [← lit_ab] at e1
  have h1 : mAdd (.int 1) (.int (n : Int)) = some (.int ((n + 1 : Nat) : Int)) := by simp [mAdd]; omega
  walk_at "y_ev"

def g_L_edit : SM := (sSeq (sSet 1 (eCall 2 m_L_any (aCons (eVar 0) (aCons (eFrz (oLst (aCons (eC (.str "keep")) (aCons (eC (.str "prepend")) (aCons (eC (.str "append")) (aCons (eC (.str "before")) (aCons (eC (.str "after")) (aCons (eC (.str "remove")) (aCons (eC (.str "flip")) (aCons (eC (.str "remove")) (aCons (eC (.str "flip")) aNil))))))))))) aNil))))
    (sSeq (sIf (tOf (eBin mEq (eVar 1) (eC (.str "keep")))) (sRet (eTup (aCons (eVar 1) aNil))) sNil)
    (sSeq (sIf (tOf (eBin mIn (eVar 1) (eTup (aCons (eC (.str "prepend")) (aCons (eC (.str "append")) aNil))))) (sRet (eTup (aCons (eVar 1) (aCons (eCall 2 m_L_any (aCons (eVar 0) (aCons (eC (.str "ab")) aNil))) aNil)))) sNil)
    (sSeq (sSet 2 (eCall 1 m_L_place (aCons (eVar 0) aNil)))
    (sRet (eIf (tOf (eBin mIn (eVar 1) (eTup (aCons (eC (.str "before")) (aCons (eC (.str "after")) aNil))))) (eTup (aCons (eVar 1) (aCons (eVar 2) (aCons (eCall 2 m_L_any (aCons (eVar 0) (aCons (eC (.str "ab")) aNil))) aNil)))) (eTup (aCons (eVar 1) (aCons (eVar 2) aNil)))))))))
def m_L_edit : List D → Bx → R D := runF 1 3 g_L_edit

theorem edit_ok2 (w : Bx) : ∃ e w', m_L_edit [.box] w = .ok (edD e) w' ∧ EdOk e ∧ Ed2 e := by
  obtain ⟨d, w1, hd, e1⟩ := any_lst w [.str "keep", .str "prepend", .str "append", .str "before", .str "after", .str "remove", .str "flip", .str "remove", .str "flip"] (by simp) (by simp)
  obtain ⟨c, w2, hc, e2⟩ := any_str w1 [97, 98] (by simp) (by simp)
  obtain ⟨p, w3, e3, hp, hp2⟩ := place_ok w1
  obtain ⟨c4, w4, hc4, e4⟩ := any_str w3 [97, 98] (by simp) (by simp)
  rw [← lit_ab] at e2 e4
  have hc : AB c := by simpa [AB] using hc
  have hc4 : AB c4 := by simpa [AB] using hc4
  simp only [List.mem_cons, List.not_mem_nil, or_false] at hd
  rcases hd with rfl | rfl | rfl | rfl | rfl | rfl | rfl | rfl | rfl
  · exact ⟨.keep, w1, x_run rfl (by unfold g_L_edit; walk_at "y_ev"), trivial, trivial⟩
  · exact ⟨.pre c, w2, x_run rfl (by unfold g_L_edit; walk_at "y_ev"), hc, trivial⟩
  · exact ⟨.app c, w2, x_run rfl (by unfold g_L_edit; walk_at "y_ev"), hc, trivial⟩
  · exact ⟨.at_ (.bef c4) p, w4, x_run rfl (by unfold g_L_edit; walk_at "y_ev"), ⟨hc4, hp⟩, hp2⟩
  · exact ⟨.at_ (.aft c4) p, w4, x_run rfl (by unfold g_L_edit; walk_at "y_ev"), ⟨hc4, hp⟩, hp2⟩
  · exact ⟨.at_ .rem p, w3, x_run rfl (by unfold g_L_edit; walk_at "y_ev"), ⟨trivial, hp⟩, hp2⟩
  · exact ⟨.at_ .flp p, w3, x_run rfl (by unfold g_L_edit; walk_at "y_ev"), ⟨trivial, hp⟩, hp2⟩
  · exact ⟨.at_ .rem p, w3, x_run rfl (by unfold g_L_edit; walk_at "y_ev"), ⟨trivial, hp⟩, hp2⟩
  · exact ⟨.at_ .flp p, w3, x_run rfl (by unfold g_L_edit; walk_at "y_ev"), ⟨trivial, hp⟩, hp2⟩
def g_L_edits : SM := (sRet (eFrz (oLc (iBy rngOf (aCons (eCall 2 m_L_draw (aCons (eVar 0) (aCons (eBin mAdd (eVar 1) (eC (.int 1))) aNil))) aNil)) (gSet 2) tYesM (eCall 1 m_L_edit (aCons (eVar 0) aNil)) [2])))
def m_L_edits : List D → Bx → R D := runF 2 3 g_L_edits

theorem edits_ok (w : Bx) (n : Nat) (hn : n ≤ 1000) : ∃ (es : List Ed) (w' : Bx), m_L_edits [.box, .int (n : Int)] w = .ok (.lst (es.map edD)) w' ∧ es.length ≤ n ∧ ∀ e ∈ es, Ed12 e := by
  obtain ⟨r, w1, e1, r0, r1⟩ := draw_ok w ((n : Int) + 1) (by omega) (by omega)
  obtain ⟨ys, w2, e2, h1, h2⟩ := x_lcP (S := wipeS (startS 3 [.box, .int (n : Int)]) [2]) (gm := gSet 2) (em := eCall 1 m_L_edit (aCons (eVar 0) aNil)) (fun y => ∃ e, y = edD e ∧ Ed12 e) (upFrom 0 r.toNat) w1 (fun x _ w => by
    obtain ⟨e, w', q1, q2, q3⟩ := edit_ok2 w
    exact ⟨_, _, w', rfl, x_call (x_cons rfl x_nil) rfl q1, e, rfl, q2, q3⟩)
  obtain ⟨es, rfl, hes⟩ := list_ex ys h2
  have hl : es.length = r.toNat := by
    have := h1
    rw [List.length_map] at this
    rw [this]; simp [upFrom]
  refine ⟨es, w2, x_run rfl (x_ret (x_frz (x_lc (x_by (x_cons (x_call (x_cons rfl (x_cons (x_bin rfl rfl rfl) x_nil)) rfl e1) x_nil) (rng_ok r0 (by omega))) ?_ e2))), by omega, hes⟩
  simp [upFrom]; show _ ≤ 16777216; omega

def g_L_whole : SM := (sRet (eAndM (e1 (mIsi "int") (eVar 0)) (eNotM (e1 (mIsi "bool") (eVar 0)))))
def m_L_whole : List D → Bx → R D := runF 1 1 g_L_whole

def g_L_same (mr : List D → Bx → R D) : SM := (sSeq (sIf (tOf (eBin mIs (eVar 1) (eC .non))) (sRet (eBin mIs (eVar 0) (eC .non))) sNil)
    (sSeq (sIf (tOf (e1 (mIsi "bool") (eVar 1))) (sRet (eAndM (e1 (mIsi "bool") (eVar 0)) (eBin mEq (eVar 0) (eVar 1)))) sNil)
    (sSeq (sIf (tOf (e1 (mIsi "int") (eVar 1))) (sRet (eAndM (eCall 1 m_L_whole (aCons (eVar 0) aNil)) (eBin mEq (eVar 0) (eVar 1)))) sNil)
    (sSeq (sIf (tOf (e1 (mIsi "str") (eVar 1))) (sRet (eAndM (e1 (mIsi "str") (eVar 0)) (eBin mEq (eVar 0) (eVar 1)))) sNil)
    (sSeq (sIf (tAndM (tOf (e1 (mIsi "tuple") (eVar 1))) (tNotM (tOf (e1 (mIsi "tuple") (eVar 0))))) (sRet (eC (.bl false))) sNil)
    (sSeq (sIf (tAndM (tOf (e1 (mIsi "list") (eVar 1))) (tNotM (tOf (e1 (mIsi "list") (eVar 0))))) (sRet (eC (.bl false))) sNil)
    (sRet (eAndM (eBin mEq (eB mLen (aCons (eVar 0) aNil)) (eB mLen (aCons (eVar 1) aNil))) (eB mAll (aCons (eFrz (oLc (iBy zipOf (aCons (eVar 0) (aCons (eVar 1) aNil))) (gTupM (gsCons (gSet 2) (gsCons (gSet 3) gsNil))) tYesM (eCall 2 mr (aCons (eVar 2) (aCons (eVar 3) aNil))) [2, 3])) aNil))))))))))

theorem mSame_zero (ds : List D) (w : Bx) : mSame 0 ds w = .bad := by
  unfold mSame
  split
  · simp [sameD]
  · rfl
theorem all_true (n : Nat) : blsOf (List.replicate n (D.bl true)) = some (List.replicate n true) := by
  induction n with
  | zero => rfl
  | succ n ih => rw [List.replicate_succ, blsOf, ih]; rfl
theorem all_reps (n : Nat) : (List.replicate n true).all id = true := by
  induction n with
  | zero => rfl
  | succ n ih => rw [List.replicate_succ, List.all_cons, ih]; rfl
theorem zip_same (k : Nat) (S : SL) (hS : S.length = 4) (w : Bx) : ∀ (a b : List D), ((a.zip b).all fun p => sameD k p.1 p.2) = true →
    lcLoop (gTupM (gsCons (gSet 2) (gsCons (gSet 3) gsNil))) tYesM (eCall 2 (mSame k) (aCons (eVar 2) (aCons (eVar 3) aNil))) S (zipD a b) w = .ok (List.replicate (a.zip b).length (.bl true)) w
  | [], _, _ => rfl
  | _ :: _, [], _ => rfl
  | x :: a, y :: b, h => by
    rw [List.zip_cons_cons, List.all_cons, Bool.and_eq_true] at h
    have ih := zip_same k S hS w a b h.2
    obtain ⟨s0, s1, s2, s3, rfl⟩ : ∃ s0 s1 s2 s3, S = [s0, s1, s2, s3] := by
      match S, hS with
      | [s0, s1, s2, s3], _ => exact ⟨s0, s1, s2, s3, rfl⟩
    refine x_lcC (e := .bl true) (w2 := w) rfl rfl ?_ ih
    refine x_call (x_cons rfl (x_cons rfl x_nil)) rfl ?_
    show (if sameD k x y then R.ok (D.bl true) w else .bad) = _
    rw [if_pos h.1]
theorem same_ok (k : Nat) : ∀ ds w, mSame (k + 1) ds w ≠ .bad → runF 2 4 (g_L_same (mSame k)) ds w = mSame (k + 1) ds w := by
  intro ds w h
  match ds, h with
  | [d, e], h =>
    have hs : sameD (k + 1) d e = true := by
      cases hq : sameD (k + 1) d e with
      | true => rfl
      | false =>
        have : mSame (k + 1) [d, e] w = .bad := by show (if sameD (k + 1) d e then R.ok (D.bl true) w else .bad) = _; rw [hq]; rfl
        exact absurd this h
    have hr : mSame (k + 1) [d, e] w = .ok (.bl true) w := by show (if sameD (k + 1) d e then R.ok (D.bl true) w else .bad) = _; rw [if_pos hs]
    rw [hr]
    cases d <;> cases e <;> first | (exact absurd (show false = true from hs) Bool.false_ne_true) | skip
    case non.non => exact x_run rfl (x_seqR (x_ifT (x_tOf (x_bin rfl rfl rfl)) (x_ret (x_bin rfl rfl rfl))))
    case bl.bl a b =>
      have e : a = b := eq_of_beq hs
      subst e
      refine x_run rfl (x_seq (x_ifF (x_tOf (x_bin rfl rfl rfl)) rfl) (x_seqR (x_ifT (x_tOf (x_e1 rfl rfl)) (x_ret (x_eandT (x_e1 rfl rfl) (x_bin rfl rfl ?_))))))
      simp [mEq, eqB]
    case int.int a b =>
      have e : a = b := eq_of_beq hs
      subst e
      refine x_run rfl (x_seq (x_ifF (x_tOf (x_bin rfl rfl rfl)) rfl) (x_seq (x_ifF (x_tOf (x_e1 rfl rfl)) rfl) (x_seqR (x_ifT (x_tOf (x_e1 rfl rfl)) (x_ret (x_eandT (x_call (x_cons rfl x_nil) rfl (r := .ok (.bl true) w) ?_) (x_bin rfl rfl ?_)))))))
      · exact x_run rfl (x_ret (x_eandT (x_e1 rfl rfl) (x_enotF (x_e1 rfl rfl))))
      · simp [mEq, eqB]
    case str.str a b =>
      have e : a = b := eq_of_beq hs
      subst e
      refine x_run rfl (x_seq (x_ifF (x_tOf (x_bin rfl rfl rfl)) rfl) (x_seq (x_ifF (x_tOf (x_e1 rfl rfl)) rfl) (x_seq (x_ifF (x_tOf (x_e1 rfl rfl)) rfl) (x_seqR (x_ifT (x_tOf (x_e1 rfl rfl)) (x_ret (x_eandT (x_e1 rfl rfl) (x_bin rfl rfl ?_))))))))
      simp [mEq, eqB]
    case lst.lst a b =>
      have h2 : ((a.length == b.length && decide (a.length ≤ sizeN)) && (a.zip b).all fun p => sameD k p.1 p.2) = true := hs
      rw [Bool.and_eq_true, Bool.and_eq_true] at h2
      have hl : a.length = b.length := eq_of_beq h2.1.1
      have hz : a.length ≤ sizeN := of_decide_eq_true h2.1.2
      refine x_run rfl (x_seq (x_ifF (x_tOf (x_bin rfl rfl rfl)) rfl) (x_seq (x_ifF (x_tOf (x_e1 rfl rfl)) rfl) (x_seq (x_ifF (x_tOf (x_e1 rfl rfl)) rfl) (x_seq (x_ifF (x_tOf (x_e1 rfl rfl)) rfl) (x_seq (x_ifF (x_andF (x_tOf (x_e1 rfl rfl))) rfl) (x_seq (x_ifF (x_andT (x_tOf (x_e1 rfl rfl)) (x_notT (x_tOf (x_e1 rfl rfl)))) rfl) (x_ret (x_eandT (x_bin (x_B (x_cons rfl x_nil) rfl) (x_B (x_cons rfl x_nil) rfl) ?_) (x_B (x_cons (x_frz (x_lc (x_by (x_cons rfl (x_cons rfl x_nil)) rfl) ?_ (zip_same k _ rfl w a b h2.2))) x_nil) ?_)))))))))
      · simp [mEq, eqB, hl]
      · simp only [zipD, List.length_map, List.length_zip]; omega
      · show (blsOf _).map _ = _
        rw [all_true]
        simp [all_reps]
    case tup.tup a b =>
      have h2 : ((a.length == b.length && decide (a.length ≤ sizeN)) && (a.zip b).all fun p => sameD k p.1 p.2) = true := hs
      rw [Bool.and_eq_true, Bool.and_eq_true] at h2
      have hl : a.length = b.length := eq_of_beq h2.1.1
      have hz : a.length ≤ sizeN := of_decide_eq_true h2.1.2
      refine x_run rfl (x_seq (x_ifF (x_tOf (x_bin rfl rfl rfl)) rfl) (x_seq (x_ifF (x_tOf (x_e1 rfl rfl)) rfl) (x_seq (x_ifF (x_tOf (x_e1 rfl rfl)) rfl) (x_seq (x_ifF (x_tOf (x_e1 rfl rfl)) rfl) (x_seq (x_ifF (x_andT (x_tOf (x_e1 rfl rfl)) (x_notT (x_tOf (x_e1 rfl rfl)))) rfl) (x_seq (x_ifF (x_andF (x_tOf (x_e1 rfl rfl))) rfl) (x_ret (x_eandT (x_bin (x_B (x_cons rfl x_nil) rfl) (x_B (x_cons rfl x_nil) rfl) ?_) (x_B (x_cons (x_frz (x_lc (x_by (x_cons rfl (x_cons rfl x_nil)) rfl) ?_ (zip_same k _ rfl w a b h2.2))) x_nil) ?_)))))))))
      · simp [mEq, eqB, hl]
      · simp only [zipD, List.length_map, List.length_zip]; omega
      · show (blsOf _).map _ = _
        rw [all_true]
        simp [all_reps]
  | [], h => exact absurd rfl h
  | [_], h => exact absurd rfl h
  | _ :: _ :: _ :: _, h => exact absurd rfl h

def g_Script___add__ : SM := (sSeq (sSet 2 (eBin mAdd (e1 (fldD "Script" "kept") (eVar 0)) (e1 (fldD "Script" "kept") (eVar 1))))
    (sRet (eMake "Script" (nLe 1000) m_Script___init__ (aStar (eVar 2)))))
def m_Script___add__ : List D → Bx → R D := runF 2 3 g_Script___add__

theorem add_sc (a b : List Ed) (ha : ∀ e ∈ a, Ed12 e) (hb : ∀ e ∈ b, Ed12 e) (hn : a.length + b.length ≤ 4) (w : Bx) : m_Script___add__ [scD a, scD b] w = .ok (scD (a ++ b)) w := by
  have e1 : mAdd (.lst (a.map edD)) (.lst (b.map edD)) = some (.lst ((a ++ b).map edD)) := by rw [List.map_append]; exact addL (by simp; omega)
  exact x_run rfl (p_seq (x_set (d := .lst ((a ++ b).map edD)) (w1 := w) (p_bin (x_e1 rfl (sc_kept _)) (x_e1 rfl (sc_kept _)) e1)) (x_ret (x_mkSc (x_star rfl rfl) (fun e he => (List.mem_append.mp he).elim (ha e) (hb e)) (by rw [List.length_append]; exact hn))))
theorem x_addSc {fa fb : EM} {S : SL} {w w1 w2 : Bx} {a b : List Ed} (h1 : fa S w = .ok (scD a) w1) (h2 : fb S w1 = .ok (scD b) w2) (ha : ∀ e ∈ a, Ed12 e) (hb : ∀ e ∈ b, Ed12 e) (hn : a.length + b.length ≤ 4) : eOwn "Script" m_Script___add__ fa fb S w = .ok (scD (a ++ b)) w2 :=
  x_own h1 h2 (by rw [show isCls "Script" (scD a) = true from cls_self _ _, show isCls "Script" (scD b) = true from cls_self _ _]; rfl) (add_sc a b ha hb hn w2)
def lb_L_script_0 : SM := (sSet 1 (eOwn "Script" m_Script___add__ (eVar 1) (eMake "Script" (nLe 1000) m_Script___init__ (aCons (eVar 2) aNil))))
def g_L_script : SM := (sSeq (sSet 1 (eMake "Script" (nLe 1000) m_Script___init__ aNil))
    (sSeq (sFor (iAny (eVar 0)) (gSet 2) lb_L_script_0)
    (sRet (eVar 1))))
def m_L_script : List D → Bx → R D := runF 1 3 g_L_script

theorem script_ok (es : List Ed) (he : ∀ e ∈ es, Ed12 e) (hn : es.length ≤ 4) (w : Bx) : m_L_script [.lst (es.map edD)] w = .ok (scD es) w := by
  obtain ⟨S2, w2, e2, rfl, done, s2, rfl, h1, h2⟩ := x_forI (f := edD) (gm := gSet 2) (body := lb_L_script_0) (fun rest S w' => w' = w ∧ ∃ done s2, S = [some (.dat (.lst (es.map edD))), some (.dat (scD done)), s2] ∧ done ++ rest = es ∧ ∀ e ∈ done ++ rest, Ed12 e) (fun e rest S w' h => by
    obtain ⟨rfl, done, s2, rfl, h1, h2⟩ := h
    have hl : done.length + (rest.length + 1) = es.length := by rw [← h1]; simp
    refine ⟨[some (.dat (.lst (es.map edD))), some (.dat (scD done)), some (.dat (edD e))], [some (.dat (.lst (es.map edD))), some (.dat (scD (done ++ [e]))), some (.dat (edD e))], w', rfl, x_set (x_addSc (w1 := w') rfl (x_mkSc (es := [e]) (p_cons rfl x_nil) (fun x hx => ?_) (by simp)) (fun x hx => h2 x (List.mem_append_left _ hx)) (fun x hx => ?_) (by simp; omega)), rfl, done ++ [e], _, rfl, ?_, ?_⟩
    · rw [List.mem_singleton.mp hx]; exact h2 e (by simp)
    · rw [List.mem_singleton.mp hx]; exact h2 e (by simp)
    · rw [List.append_assoc]; exact h1
    · rw [List.append_assoc]; exact h2) es [some (.dat (.lst (es.map edD))), some (.dat (scD [])), none] w ⟨rfl, [], none, rfl, rfl, he⟩
  rw [List.append_nil] at h1
  subst h1
  exact x_run rfl (p_seq (x_set (d := scD []) (w1 := w2) (x_mkSc (es := []) rfl (fun _ h => nomatch h) (by simp))) (p_seq (x_for (p_any rfl rfl) e2) (x_ret rfl)))

noncomputable def lb_law_0 : SM := (sSeq (sPar 3 4 (aCons (eCall 2 m_L_edits (aCons (eVar 1) (aCons (eC (.int 4)) aNil))) (aCons (eCall 2 m_L_edits (aCons (eVar 1) (aCons (eC (.int 4)) aNil))) aNil)))
    (sSeq (sIf (tOf (eBin mEq (eCall 2 m_L_draw (aCons (eVar 1) (aCons (eC (.int 3)) aNil))) (eC (.int 0)))) (sSet 4 (eFrz (oB mList (aCons (eVar 3) aNil)))) sNil)
    (sSeq (sPar 5 6 (aCons (eCall 1 m_L_script (aCons (eVar 3) aNil)) (aCons (eCall 1 m_L_script (aCons (eVar 4) aNil)) aNil)))
    (sSeq (sSet 7 (eBin mAdd (eBin mAdd (eC (.str "Script(")) (eB mStr (aCons (eB mLen (aCons (eVar 3) aNil)) aNil))) (eC (.str " edits)"))))
    (sSeq (sIf (tNotM (tOf (eCall 2 (mSame 8) (aCons (eFrz (oLst (aCons (eMeth "Script" "edits" 1 m_Script_edits (eVar 5) aNil) (aCons (eLenI "Script" m_Script___len__ (eVar 5)) (aCons (eReprI "Script" m_Script___repr__ (eVar 5)) aNil))))) (aCons (eFrz (oLst (aCons (eVar 3) (aCons (eB mLen (aCons (eVar 3) aNil)) (aCons (eVar 7) aNil))))) aNil))))) (sRet (eC (.bl false))) sNil)
    (sSeq (sSet 8 (eCall 1 m_L_edit (aCons (eVar 1) aNil)))
    (sSeq (sIf (tNotM (tOf (eCall 2 (mSame 8) (aCons (eFrz (oLst (aCons (eOwn "Script" m_Script___eq__ (eVar 5) (eVar 6)) (aCons (eOwnN "Script" m_Script___eq__ (eVar 5) (eVar 6)) (aCons (eOwnIn "Script" m_Script___contains__ (eVar 8) (eVar 5)) aNil))))) (aCons (eFrz (oLst (aCons (eBin mEq (eVar 3) (eVar 4)) (aCons (eBin mNe (eVar 3) (eVar 4)) (aCons (eBin mIn (eVar 8) (eVar 3)) aNil))))) aNil))))) (sRet (eC (.bl false))) sNil)
    (sSeq (sIf (tNotM (tOf (eCall 2 (mSame 8) (aCons (eFrz (oLst (aCons (eOwnB "Script" m_Script___eq__ (eVar 5) (eVar 3)) (aCons (eOwnB "Script" m_Script___eq__ (eVar 5) (eC (.str "keep"))) (aCons (eOwnC "Script" "Merge" m_Script___eq__ (eVar 5) (eMake "Merge" (nEq 2) m_Merge___init__ (aCons (eVar 5) (aCons (eVar 6) aNil)))) aNil))))) (aCons (eFrz (oLst (aCons (eC (.bl false)) (aCons (eC (.bl false)) (aCons (eC (.bl false)) aNil))))) aNil))))) (sRet (eC (.bl false))) sNil)
    (sSeq (sAppT (oMeth "Script" "edits" 1 mO_Script_edits (eVar 5) aNil) (eTup (aCons (eC (.str "keep")) aNil)))
    (sSeq (sIf (tNotM (tOf (eCall 2 (mSame 8) (aCons (eMeth "Script" "edits" 1 m_Script_edits (eVar 5) aNil) (aCons (eVar 3) aNil))))) (sRet (eC (.bl false))) sNil)
    (sSeq (sSet 9 (eCall 2 m_L_any (aCons (eVar 1) (aCons (eFrz (oLst (aCons (eTup aNil) (aCons (eTup (aCons (eC (.str "jump")) aNil)) (aCons (eTup (aCons (eC (.str "flip")) (aCons (eTup (aCons (eC (.str "a")) (aCons (eC (.int 3)) (aCons (eC (.str "back")) aNil)))) aNil))) (aCons (eTup (aCons (eC (.str "append")) (aCons (eC (.str "c")) aNil))) aNil)))))) aNil))))
    (sSeq (sSet 10 (eVar 8))
    (sSeq (sAsg (eFrz (oLc (iBy rngOf (aCons (eC (.int 4)) aNil)) (gSet 17) tYesM (eCall 1 m_L_edit (aCons (eVar 1) aNil)) [17])) (gSeqM (gsCons (gSet 11) (gsCons (gSet 12) (gsCons (gSet 13) (gsCons (gSet 14) gsNil))))))
    (sSeq (sLamA 15 la_law_0)
    (sSeq (sSet 16 (eFrz (oLst (aCons (eTup (aCons (eC (.str "TooLong")) (aCons (eC (.int 4)) aNil))) (aCons (eTup (aCons (eC (.str "InvalidEdit")) (aCons (eC (.int 1)) aNil))) (aCons (eTup (aCons (eC (.str "InvalidEdit")) (aCons (eC (.int 0)) aNil))) (aCons (eTup (aCons (eC (.str "InvalidEdit")) (aCons (eC (.int 5)) aNil))) aNil)))))))
    (sIf (tOrM (tOf (eBin mNe (eFrz (oRefs 15 18 la_law_0 refTbl [(eMake "Script" (nLe 1000) m_Script___init__ (aCons (eVar 10) (aCons (eVar 11) (aCons (eVar 12) (aCons (eVar 13) (aCons (eVar 14) aNil)))))), (eMake "Script" (nLe 1000) m_Script___init__ (aCons (eVar 10) (aCons (eVar 9) (aCons (eVar 12) (aCons (eVar 9) aNil))))), (eMake "Script" (nLe 1000) m_Script___init__ (aCons (eVar 9) aNil)), (eMake "Script" (nLe 1000) m_Script___init__ (aCons (eVar 10) (aCons (eVar 11) (aCons (eVar 12) (aCons (eVar 13) (aCons (eVar 14) (aCons (eVar 9) aNil)))))))])) (eVar 16))) (tNotM (tOf (eCall 2 (mSame 8) (aCons (eMeth "Script" "edits" 1 m_Script_edits (eMake "Script" (nLe 1000) m_Script___init__ (aCons (eVar 10) (aCons (eVar 11) (aCons (eVar 12) (aCons (eVar 13) aNil))))) aNil) (aCons (eFrz (oLst (aCons (eVar 10) (aCons (eVar 11) (aCons (eVar 12) (aCons (eVar 13) aNil)))))) aNil)))))) (sRet (eC (.bl false))) sNil))))))))))))))))
noncomputable def g_law : SM := (sSeq (sFor (iBy rngOf (aCons (eC (.int 4)) aNil)) (gSet 2) lb_law_0)
    (sRet (eAndM (eBin mEq (eC (.int 4)) (eC (.int 4))) (eCall 2 (mSame 8) (aCons (eFrz (oLst (aCons (eMeth "Script" "edits" 1 m_Script_edits (eMake "Script" (nLe 1000) m_Script___init__ aNil) aNil) (aCons (eLenI "Script" m_Script___len__ (eMake "Script" (nLe 1000) m_Script___init__ aNil)) aNil)))) (aCons (eFrz (oLst (aCons (eFrz (oLst aNil)) (aCons (eC (.int 0)) aNil)))) aNil))))))

def IS (S : SL) : Prop := ∃ s0 s2 s3 s4 s5 s6 s7 s8 s9 s10 s11 s12 s13 s14 s15 s16 s17 s18, S = [s0, some (.dat .box), s2, s3, s4, s5, s6, s7, s8, s9, s10, s11, s12, s13, s14, s15, s16, s17, s18]
theorem same_x {d : D} (h : plainD 8 d) (w : Bx) : mSame 8 [d, d] w = .ok (.bl true) w := x_same' h
theorem len_edsX (es : List Ed) : mLen [.lst (es.map edD)] = some (.int (es.length : Int)) := by show some (D.int ((es.map edD).length : Int)) = _; rw [List.length_map]
theorem kept_m {m : Str} {es : List Ed} (h : (m == ("kept" : Str)) = false) : isObj "Script" m (scD es) = true := by
  unfold scD; exact kept_neE _ _ h
theorem cls_sc (es : List Ed) : isCls "Script" (scD es) = true := cls_at
theorem sceq_no (a : List Ed) {d : D} (h : mIsG isg_Script d = some (.bl false)) (w : Bx) : m_Script___eq__ [scD a, d] w = .ok (.bl false) w :=
  x_run rfl (x_ret (x_eandF (x_e1 rfl h)))
theorem isg_mgX (a b : List Ed) : mIsG isg_Script (mgD a b) = some (.bl false) := by
  have : isg_Script.lookup ("Merge" : Str) = some false := by decide +kernel
  show (isg_Script.lookup ("Merge" : Str)).map D.bl = _
  rw [this]; rfl
/-- what the calls that are refused tell -/
def duesD : List D := [.tup [.str "TooLong", .int 4], .tup [.str "InvalidEdit", .int 1], .tup [.str "InvalidEdit", .int 0], .tup [.str "InvalidEdit", .int 5]]
theorem dues_ne : mNe (.lst duesD) (.lst duesD) = some (.bl false) := by
  have n : niceN 3 (.lst duesD) := nice_list fun x hx => by
    simp only [duesD, List.mem_cons, List.not_mem_nil, or_false] at hx
    rcases hx with rfl | rfl | rfl | rfl
    · exact nice_tupl (nice_cons (show PyData.strOk "TooLong" = true by decide +kernel) (nice_cons trivial nice_nil))
    · exact nice_tupl (nice_cons (show PyData.strOk "InvalidEdit" = true by decide +kernel) (nice_cons trivial nice_nil))
    · exact nice_tupl (nice_cons (show PyData.strOk "InvalidEdit" = true by decide +kernel) (nice_cons trivial nice_nil))
    · exact nice_tupl (nice_cons (show PyData.strOk "InvalidEdit" = true by decide +kernel) (nice_cons trivial nice_nil))
  obtain ⟨b, h1, h2, h3⟩ := mEq_rig n n (by decide) (by decide) rfl rfl
  rw [h2, h3.mpr rfl]; rfl
theorem ref_tl : refTbl.lookup ("TooLong" : Str) = some ("most" : Str) := by decide +kernel
theorem ref_ie : refTbl.lookup ("InvalidEdit" : Str) = some ("at" : Str) := by decide +kernel
theorem told_bad {fs : AM} {S : SL} {w : Bx} {ds : List D} {n : Nat} (h : fs S w = .ok ds w) (hl : ds.length ≤ 1000) (hn : n < ds.length) (hg : ∀ i, i < n → m_is_edit [ds.getD i .non] w = .ok (.bl true) w) (hb : m_is_edit [ds.getD n .non] w = .ok (.bl false) w) :
    eRef refTbl (eMake "Script" (nLe 1000) m_Script___init__ fs) S w = .ok (.tup [.str "InvalidEdit", .int (n : Int)]) w :=
  x_refE (x_makeE h (Nat.ble_eq.mpr hl) (init_badAt hn hg hb)) ref_ie rfl rfl
theorem told_long {fs : AM} {S : SL} {w : Bx} {es : List Ed} (h : fs S w = .ok (es.map edD) w) (he : ∀ e ∈ es, Ed12 e) (hn : 4 < es.length) (h2 : es.length ≤ 1000) :
    eRef refTbl (eMake "Script" (nLe 1000) m_Script___init__ fs) S w = .ok (.tup [.str "TooLong", .int 4]) w :=
  x_refE (x_mkLong h he hn h2) ref_tl rfl rfl
/-- the edits that a list of four holds -/
theorem four {l : List Ed} (h : l.length = 4) : ∃ a b c d, l = [a, b, c, d] := by
  match l, h with
  | [a, b, c, d], _ => exact ⟨a, b, c, d, rfl⟩
theorem cls2 (a b : List Ed) : (isCls "Script" (scD a) && isCls "Script" (scD b)) = true := by rw [cls_sc, cls_sc]; rfl
theorem notE_any (q : Bool) (w : Bx) : notE q w = .ok (.bl !q) w := by cases q <;> rfl
theorem x_ownB' {c : Str} {mm : List D → Bx → R D} {fa fb : EM} {S : SL} {w : Bx} {d e : D} {r : R D} (ho : isCls c d = true) (ha : fa S w = .ok d w) (hb : fb S w = .ok e w) (ht : isTy e = true) (hm : mm [d, e] w = r) : eOwnB c mm fa fb S w = r := by
  unfold eOwnB; rw [ha, R.bind_ok, hb, R.bind_ok, ho, ht]; exact hm
theorem four_ok (S : SL) (w : Bx) (hS : (wipeS S [17])[1]? = some (some (.dat .box))) (h17 : S.length = 19) : ∃ (es : List Ed) (w' : Bx), eFrz (oLc (iBy rngOf (aCons (eC (.int 4)) aNil)) (gSet 17) tYesM (eCall 1 m_L_edit (aCons (eVar 1) aNil)) [17]) S w = .ok (.lst (es.map edD)) w' ∧ es.length = 4 ∧ ∀ e ∈ es, Ed12 e := by
  obtain ⟨ys, w2, e2, h1, h2⟩ := x_lcP (S := wipeS S [17]) (gm := gSet 17) (em := eCall 1 m_L_edit (aCons (eVar 1) aNil)) (fun y => ∃ e, y = edD e ∧ Ed12 e) (upFrom 0 4) w (fun x _ w => by
    obtain ⟨e, w', q1, q2, q3⟩ := edit_ok2 w
    refine ⟨_, _, w', rfl, x_call (x_cons ?_ x_nil) rfl q1, e, rfl, q2, q3⟩
    show eVar 1 ((wipeS S [17]).set 17 _) w = _
    exact x_var (by rw [List.getElem?_set_ne (by decide)]; exact hS))
  obtain ⟨es, rfl, hes⟩ := list_ex ys h2
  have hl : es.length = 4 := by
    have := h1
    rw [List.length_map] at this
    rw [this]; rfl
  exact ⟨es, w2, x_frz (x_lc (x_by (x_cons rfl x_nil) (rng_ok (by decide) (by decide))) (by decide) e2), hl, hes⟩
theorem x_lamA {i : Nat} {ls : List LamI} {S : SL} {w : Bx} (h : ls.length ≤ 1000) (h2 : i < S.length) : sLamA i ls S w = .nx (S.set i (some (.lam ls))) w := by unfold sLamA; rw [if_pos ⟨h, h2⟩]
theorem turn_ok (S : SL) (w : Bx) (h : IS S) : ∃ S2 w2, lb_law_0 S w = .nx S2 w2 ∧ IS S2 := by
  obtain ⟨s0, s2, s3, s4, s5, s6, s7, s8, s9, s10, s11, s12, s13, s14, s15, s16, s17, s18, rfl⟩ := h
  obtain ⟨a, w1, e1, ha, hae⟩ := edits_ok w 4 (by decide)
  obtain ⟨b0, w2, e2, hb0, hbe0⟩ := edits_ok w1 4 (by decide)
  have e1 : m_L_edits [.box, .int 4] w = _ := e1
  have e2 : m_L_edits [.box, .int 4] w1 = _ := e2
  obtain ⟨r, w3, e3, r0, r1⟩ := draw_ok w2 3 (by decide) (by decide)
  -- what the second list is
  obtain ⟨b, hb, hbe, st⟩ : ∃ b : List Ed, b.length ≤ 4 ∧ (∀ e ∈ b, Ed12 e) ∧ (sIf (tOf (eBin mEq (eCall 2 m_L_draw (aCons (eVar 1) (aCons (eC (.int 3)) aNil))) (eC (.int 0)))) (sSet 4 (eFrz (oB mList (aCons (eVar 3) aNil)))) sNil) [s0, some (.dat .box), s2, some (.dat (.lst (a.map edD))), some (.dat (.lst (b0.map edD))), s5, s6, s7, s8, s9, s10, s11, s12, s13, s14, s15, s16, s17, s18] w2 = .nx [s0, some (.dat .box), s2, some (.dat (.lst (a.map edD))), some (.dat (.lst (b.map edD))), s5, s6, s7, s8, s9, s10, s11, s12, s13, s14, s15, s16, s17, s18] w3 := by
    have tt : (tOf (eBin mEq (eCall 2 m_L_draw (aCons (eVar 1) (aCons (eC (.int 3)) aNil))) (eC (.int 0)))) [s0, some (.dat .box), s2, some (.dat (.lst (a.map edD))), some (.dat (.lst (b0.map edD))), s5, s6, s7, s8, s9, s10, s11, s12, s13, s14, s15, s16, s17, s18] w2 = .ok (decide (r = 0)) w3 := x_tOf (x_bin (x_call (x_cons rfl (x_cons rfl x_nil)) rfl e3) rfl rfl)
    by_cases h : r = 0
    · rw [decide_eq_true h] at tt
      exact ⟨a, ha, hae, x_ifT tt (x_set (d := .lst (a.map edD)) (w1 := w3) (x_frz (x_oB (p_cons rfl x_nil) rfl)))⟩
    · rw [decide_eq_false h] at tt
      exact ⟨b0, hb0, hbe0, x_ifF tt rfl⟩
  have ha' : ∀ e ∈ a, EdOk e := fun e h => (hae e h).1
  have hb' : ∀ e ∈ b, EdOk e := fun e h => (hbe e h).1
  have p1 := script_ok a hae ha w3
  have p2 := script_ok b hbe hb w3
  obtain ⟨t, rp, t1, g1, g2⟩ := scrtext_ok a ha
  have m1 := mstr_smallS a.length (by omega)
  have n1 := len_edsX a
  have l1 := sclen_ok a (by omega) w3
  have z1 : mSame 8 [.lst [.lst (a.map edD), .int (a.length : Int), .str t], .lst [.lst (a.map edD), .int (a.length : Int), .str t]] w3 = .ok (.bl true) w3 := same_x (d := .lst [.lst (a.map edD), .int (a.length : Int), .str t]) ⟨lsz rfl, plain_cons (plain_eds a (by omega) 3) (plain_cons trivial (plain_cons trivial plain_nil))⟩ w3
  obtain ⟨c, w4, e4, c1, c2⟩ := edit_ok2 w3
  obtain ⟨q, q1, q2, _⟩ := mEq_rig (nice_eds ha') (nice_eds hb') (by decide) (by decide) (rig_eds a) (rig_eds b)
  obtain ⟨k, k1⟩ := in_lst (nice_ed c1 0) (by decide) (nice_eds ha') (by decide)
  have z2 : mSame 8 [.lst [.bl q, .bl (!q), .bl k], .lst [.bl q, .bl (!q), .bl k]] w4 = .ok (.bl true) w4 := same_x (d := .lst [.bl q, .bl (!q), .bl k]) ⟨lsz rfl, plain_cons trivial (plain_cons trivial (plain_cons trivial plain_nil))⟩ w4
  have z3 : mSame 8 [.lst [.bl false, .bl false, .bl false], .lst [.bl false, .bl false, .bl false]] w4 = .ok (.bl true) w4 := same_x (d := .lst [.bl false, .bl false, .bl false]) ⟨lsz rfl, plain_cons trivial (plain_cons trivial (plain_cons trivial plain_nil))⟩ w4
  have z4 : mSame 8 [.lst (a.map edD), .lst (a.map edD)] w4 = .ok (.bl true) w4 := same_x (d := .lst (a.map edD)) (plain_eds a (by omega) 4) w4
  obtain ⟨d, w5, hd, e5⟩ := any_lst w4 [.tup [], .tup [.str "jump"], .tup [.str "flip", .tup [.str "a", .int 3, .str "back"]], .tup [.str "append", .str "c"]] (by simp) (by simp)
  have hd' : ∀ w, m_is_edit [d] w = .ok (.bl false) w := bad_edit hd
  obtain ⟨es, w6, e6, h6, h7⟩ := four_ok [s0, some (.dat .box), s2, some (.dat (.lst (a.map edD))), some (.dat (.lst (b.map edD))), some (.dat (scD a)), some (.dat (scD b)), some (.dat (.str t)), some (.dat (edD c)), some (.dat d), some (.dat (edD c)), s11, s12, s13, s14, s15, s16, s17, s18] w5 rfl rfl
  obtain ⟨x1, x2, x3, x4, rfl⟩ := four h6
  have y0 : Ed12 c := ⟨c1, c2⟩
  have y1 : Ed12 x1 := h7 _ (by simp)
  have y2 : Ed12 x2 := h7 _ (by simp)
  have y3 : Ed12 x3 := h7 _ (by simp)
  have y4 : Ed12 x4 := h7 _ (by simp)
  -- the loop's state
  refine ⟨_, w6, x_seq (x_par (d := .lst (a.map edD)) (e := .lst (b0.map edD)) (w1 := w2) (x_cons (x_call (x_cons rfl (x_cons rfl x_nil)) rfl e1) (x_cons (x_call (x_cons rfl (x_cons rfl x_nil)) rfl e2) x_nil))) (x_seq st
    (x_seq (x_par (d := scD a) (e := scD b) (w1 := w3) (x_cons (x_call (x_cons rfl x_nil) rfl p1) (x_cons (x_call (x_cons rfl x_nil) rfl p2) x_nil)))
    (x_seq (x_set (d := .str t) (w1 := w3) (x_bin (x_bin rfl (x_B (p_cons (x_B (p_cons rfl x_nil) n1) x_nil) m1) g1) rfl g2))
    (x_seq (S1 := [s0, some (.dat .box), s2, some (.dat (.lst (a.map edD))), some (.dat (.lst (b.map edD))), some (.dat (scD a)), some (.dat (scD b)), some (.dat (.str t)), s8, s9, s10, s11, s12, s13, s14, s15, s16, s17, s18]) (w1 := w3) (x_ifF (w1 := w3) (x_notT (x_tOf (x_call (p_cons (x_frz (x_lst (p_cons (x_editsSc rfl (by omega)) (p_cons (x_lenI (w1 := w3) (w2 := w3) rfl (cls_sc a) l1 (by omega)) (p_cons (x_reprI (w1 := w3) (w2 := w3) rfl (cls_sc a) (rp w3)) x_nil))) (lsz rfl))) (p_cons (x_frz (x_lst (p_cons rfl (p_cons (x_B (p_cons rfl x_nil) n1) (p_cons rfl x_nil))) (lsz rfl))) x_nil)) rfl z1))) rfl)
    (x_seq (x_set (d := edD c) (w1 := w4) (x_call (x_cons rfl x_nil) rfl e4))
    (x_seq (S1 := [s0, some (.dat .box), s2, some (.dat (.lst (a.map edD))), some (.dat (.lst (b.map edD))), some (.dat (scD a)), some (.dat (scD b)), some (.dat (.str t)), some (.dat (edD c)), s9, s10, s11, s12, s13, s14, s15, s16, s17, s18]) (w1 := w4) (x_ifF (w1 := w4) (x_notT (x_tOf (x_call (p_cons (x_frz (x_lst (p_cons (x_own (w1 := w4) (w2 := w4) rfl rfl (cls2 a b) (sceq_ok a b q1 w4)) (p_cons (g_ownN (w1 := w4) (w2 := w4) rfl rfl (cls_sc a) (cls_sc b) (sceq_ok a b q1 w4) (notE_any q w4)) (p_cons (x_ownIn (w1 := w4) (w2 := w4) rfl rfl (cls_sc a) (sccont_ok c a k1 w4)) x_nil))) (lsz rfl))) (p_cons (x_frz (x_lst (p_cons (p_bin rfl rfl q1) (p_cons (p_bin rfl rfl q2) (p_cons (p_bin rfl rfl k1) x_nil))) (lsz rfl))) x_nil)) rfl z2))) rfl)
    (x_seq (S1 := [s0, some (.dat .box), s2, some (.dat (.lst (a.map edD))), some (.dat (.lst (b.map edD))), some (.dat (scD a)), some (.dat (scD b)), some (.dat (.str t)), some (.dat (edD c)), s9, s10, s11, s12, s13, s14, s15, s16, s17, s18]) (w1 := w4) (x_ifF (w1 := w4) (x_notT (x_tOf (x_call (p_cons (x_frz (x_lst (p_cons (x_ownB' (cls_sc a) rfl rfl rfl (sceq_no a rfl w4)) (p_cons (x_ownB' (cls_sc a) rfl rfl rfl (sceq_no a rfl w4)) (p_cons (x_ownC (w1 := w4) (w2 := w4) (e := mgD a b) rfl (x_mkMg (p_cons rfl (p_cons rfl x_nil))) (cls_sc a) cls_at (sceq_no a (isg_mgX a b) w4)) x_nil))) (lsz rfl))) (p_cons (x_frz (x_lst (p_cons rfl (p_cons rfl (p_cons rfl x_nil))) (lsz rfl))) x_nil)) rfl z3))) rfl)
    (x_seq (x_appT (w2 := w4) (x_oMeth (ds := []) (w1 := w4) (w2 := w4) rfl (kept_m (by decide +kernel)) x_nil rfl (editsO_sc a w4)) rfl (by rw [List.length_map]; omega))
    (x_seq (S1 := [s0, some (.dat .box), s2, some (.dat (.lst (a.map edD))), some (.dat (.lst (b.map edD))), some (.dat (scD a)), some (.dat (scD b)), some (.dat (.str t)), some (.dat (edD c)), s9, s10, s11, s12, s13, s14, s15, s16, s17, s18]) (w1 := w4) (x_ifF (w1 := w4) (x_notT (x_tOf (x_call (p_cons (x_editsSc rfl (by omega)) (p_cons rfl x_nil)) rfl z4))) rfl)
    (x_seq (x_set (d := d) (w1 := w5) (x_call (x_cons rfl (x_cons (x_frz (x_lst (p_cons rfl (p_cons rfl (p_cons rfl (p_cons rfl x_nil)))) (lsz rfl))) x_nil)) rfl e5))
    (x_seq (x_set (d := edD c) (w1 := w5) rfl)
    (x_seq (x_asg (S1 := [s0, some (.dat .box), s2, some (.dat (.lst (a.map edD))), some (.dat (.lst (b.map edD))), some (.dat (scD a)), some (.dat (scD b)), some (.dat (.str t)), some (.dat (edD c)), some (.dat d), some (.dat (edD c)), some (.dat (edD x1)), some (.dat (edD x2)), some (.dat (edD x3)), some (.dat (edD x4)), s15, s16, s17, s18]) e6 rfl)
    (x_seq (x_lamA (Nat.le_of_ble_eq_true rfl) (Nat.le_of_ble_eq_true rfl))
    (x_seq (x_set (d := .lst duesD) (w1 := w6) (x_frz (x_lst (p_cons rfl (p_cons rfl (p_cons rfl (p_cons rfl x_nil)))) (lsz rfl))))
    (x_ifF (w1 := w6) (x_orF (w1 := w6) (x_tOf (p_bin (x_frz (x_refs rfl (Nat.le_of_ble_eq_true rfl) (Nat.le_of_ble_eq_true rfl) (x_rfC (told_long (es := [c, x1, x2, x3, x4]) (p_cons rfl (p_cons rfl (p_cons rfl (p_cons rfl (p_cons rfl x_nil))))) ?h5 (Nat.le_of_ble_eq_true rfl) (Nat.le_of_ble_eq_true rfl)) (x_rfC (told_bad (ds := [edD c, d, edD x2, d]) (n := 1) (p_cons rfl (p_cons rfl (p_cons rfl (p_cons rfl x_nil)))) (Nat.le_of_ble_eq_true rfl) (Nat.le_of_ble_eq_true rfl) ?g1 (hd' _)) (x_rfC (told_bad (ds := [d]) (n := 0) (p_cons rfl x_nil) (Nat.le_of_ble_eq_true rfl) (Nat.le_of_ble_eq_true rfl) (fun i hi => absurd hi (by omega)) (hd' _)) (x_rfC (told_bad (ds := [edD c, edD x1, edD x2, edD x3, edD x4, d]) (n := 5) (p_cons rfl (p_cons rfl (p_cons rfl (p_cons rfl (p_cons rfl (p_cons rfl x_nil)))))) (Nat.le_of_ble_eq_true rfl) (Nat.le_of_ble_eq_true rfl) ?g5 (hd' _)) x_rfN))))))
      rfl dues_ne)) (x_notT (x_tOf (x_call (p_cons (x_editsSc (es := [c, x1, x2, x3]) (x_mkSc (p_cons rfl (p_cons rfl (p_cons rfl (p_cons rfl x_nil)))) ?h4 (Nat.le_of_ble_eq_true rfl)) (Nat.le_of_ble_eq_true rfl)) (p_cons (x_frz (x_lst (p_cons rfl (p_cons rfl (p_cons rfl (p_cons rfl x_nil)))) (lsz rfl))) x_nil)) rfl ?z5)))) rfl))))))))))))))), ?_⟩
  case h5 =>
    intro x hx
    simp only [List.mem_cons, List.not_mem_nil, or_false] at hx
    rcases hx with rfl | rfl | rfl | rfl | rfl <;> assumption
  case h4 =>
    intro x hx
    simp only [List.mem_cons, List.not_mem_nil, or_false] at hx
    rcases hx with rfl | rfl | rfl | rfl <;> assumption
  case g1 =>
    intro i hi
    obtain rfl : i = 0 := by omega
    exact isedit_ok y0 _
  case g5 =>
    intro i hi
    have : i = 0 ∨ i = 1 ∨ i = 2 ∨ i = 3 ∨ i = 4 := by omega
    rcases this with rfl | rfl | rfl | rfl | rfl
    · exact isedit_ok y0 _
    · exact isedit_ok y1 _
    · exact isedit_ok y2 _
    · exact isedit_ok y3 _
    · exact isedit_ok y4 _
  case z5 => exact same_x (d := .lst ([c, x1, x2, x3].map edD)) (plain_eds _ (Nat.le_of_ble_eq_true rfl) 4) w6
  exact ⟨_, _, _, _, _, _, _, _, _, _, _, _, _, _, _, _, _, _, rfl⟩
theorem law_true : ∀ w : Bx, ∃ w', g_law (lawS 19) w = .rt (.bl true) w' := fun w => by
  obtain ⟨S2, w2, e, hI⟩ := x_forP (gm := gSet 2) (body := lb_law_0) IS (upFrom 0 4) (lawS 19) w ⟨_, _, _, _, _, _, _, _, _, _, _, _, _, _, _, _, _, _, rfl⟩ fun x _ S w h => by
    obtain ⟨s0, s2, s3, s4, s5, s6, s7, s8, s9, s10, s11, s12, s13, s14, s15, s16, s17, s18, rfl⟩ := h
    obtain ⟨S2, w2, e, h2⟩ := turn_ok [s0, some (.dat .box), some (.dat x), s3, s4, s5, s6, s7, s8, s9, s10, s11, s12, s13, s14, s15, s16, s17, s18] w ⟨_, _, _, _, _, _, _, _, _, _, _, _, _, _, _, _, _, _, rfl⟩
    exact ⟨_, rfl, S2, w2, .inl e, h2⟩
  have n0 : eMake "Script" (nLe 1000) m_Script___init__ aNil S2 w2 = .ok (scD []) w2 := x_mkSc (es := []) rfl (fun _ h => nomatch h) (by simp)
  have e0 := x_editsSc (es := []) n0 (by simp)
  have l0 : m_Script___len__ [scD []] w2 = .ok (.int 0) w2 := sclen_ok [] (by simp) w2
  have z : mSame 8 [.lst [.lst [], .int 0], .lst [.lst [], .int 0]] w2 = .ok (.bl true) w2 := same_x (d := .lst [.lst [], .int 0]) ⟨lsz rfl, plain_cons (plain_eds [] (by simp) 3) (plain_cons trivial plain_nil)⟩ w2
  refine ⟨w2, x_seq (x_for (x_by (x_cons rfl x_nil) (rng_ok (by decide) (by decide))) e) (x_ret (x_eandT (x_bin rfl rfl rfl) (x_call (p_cons (x_frz (x_lst (p_cons e0 (p_cons (x_lenI n0 cls_at l0 (by omega)) x_nil)) (lsz rfl))) (p_cons (x_frz (x_lst (p_cons (x_frz (x_lst x_nil (lsz rfl))) (p_cons rfl x_nil)) (lsz rfl))) x_nil)) rfl z)))⟩

section
variable {P : Program} {w : World} {K : PySem.W.Frag} {mg : Str → Option Value} {base : Heap} {tb : List (Addr × Str)}
theorem ok_open (T : Top P w K mg base tb) : ∃ fo fdo, FnOk P w K mg base (L2N.CX P w) 1 fo fdo ["_law_script_here"] (spOpen K) ∧ mg "_law_open" = some (.ref fo) ∧ PySem.W.keepIn K (.ref fo) = true ∧ Binds K fdo ["_law_script_here"] [] := by
  obtain ⟨fo, fdo, F, hm, hb⟩ := T.d_L_open
  refine ⟨fo, fdo, okXN (k := 0) F sc_L_open (fun vs H Q E h => ?_) (fun cdv A outer s H vs Q E hr h => ?_), hm, F.kp, hb⟩
  · obtain ⟨a, ns, rfl, _⟩ := h; rfl
  · obtain ⟨a, ns, rfl, hS, hl, q⟩ := h
    have nd := sc_L_open.nd
    refine ⟨_, pss_cons (ps_set (i := 1) nd rfl (.inl rfl) (pe_callTy call_list_of (by rfl) T.n_list (by decide +kernel) (pa_cons (pe_slice sl_list (pv 0) po_none (po_some pe_int)) pa_nil)))
      (pss_cons (ps_set (i := 2) nd rfl (.inl rfl) (pe_op op_add pe_int (pe_callB call_len_seq (by rfl) T.n_len PySem.boot_len (pa_cons (pv 1) pa_nil))))
      (pss_cons (ps_for (passes_of rfl) rfl (pi_list (pv 1)) (pg_name (i := 3) nd rfl (.inl rfl)) (pss_one (ps_set (i := 2) nd rfl (.inl rfl) (pe_op op_mod (pe_op op_add (pe_op op_add (pe_op op_mul (pv 2) pe_int) (pe_op op_mod (pv 3) pe_int)) pe_int) pe_int))))
      (pss_one (ps_ret (pe_lst (pa_cons (pv 1) (pa_cons pe_int (pa_cons pe_int (pa_cons (pv 2) pa_nil))))))))), ?_⟩
    refine ⟨.ref a, rfl, 63, rfl, a, ns.map V.int, rfl, hS, fun p np => ?_⟩
    rw [cut63 hl]
    refine ⟨p, _, rfl, .inl (SqL.of upd_same), fun c nc => ?_⟩
    have s1 : Same H (upd H p (.lst (ns.map V.int))) := fun x o h => by rw [upd_ne (ne_of_none h np)]; exact h
    have s2 : Same (upd H p (.lst (ns.map V.int))) (upd (upd H p (.lst (ns.map V.int))) c (.lst (ns.map V.int))) := fun x o h => by rw [upd_ne (ne_of_none h nc)]; exact h
    have hc : (upd (upd H p (.lst (ns.map V.int))) c (.lst (ns.map V.int))) c = some (.lst (ns.map V.int)) := upd_same
    generalize (upd (upd H p (.lst (ns.map V.int))) c (.lst (ns.map V.int))) = H2 at hc s2
    have s12 := s1.trans s2
    refine ⟨.ref c, rfl, c, _, rfl, .inl (SqL.of hc), 3816, _, rfl, rfl, ?_⟩
    refine ⟨.ref c, rfl, c, rfl, ⟨_, SqL.of hc⟩, for_list (K := K) (a := c) (xs := ns.map V.int) (fun i σ H3 => H3 = H2 ∧ ∃ (mk : Int) (y : Option V), 0 ≤ mk ∧ mk < 2147483647 ∧ σ = [some (.ref a), some (.ref c), some (.int mk), y]) ⟨rfl, 3816 + ((ns.map V.int).length : Int), none, ?_, ?_, rfl⟩ (fun i σ H3 _ h => ?_) (fun i x σ H3 hx h => ?_) (fun σ H3 h => ?_)⟩
    · omega
    · rw [List.length_map]; omega
    · obtain ⟨rfl, _⟩ := h; exact SqL.of hc
    · obtain ⟨rfl, mk, y, h0, h1, rfl⟩ := h
      have hx' : ∃ n, x = .int n := by
        rw [List.getElem?_map] at hx
        obtain ⟨n, _, rfl⟩ := Option.map_eq_some_iff.mp hx
        exact ⟨n, rfl⟩
      obtain ⟨n, rfl⟩ := hx'
      refine ⟨_, rfl, mk, 8191, rfl, rfl, .inr ⟨by decide, by decide⟩, .int n, rfl, n, 1000003, rfl, rfl, (by show (0 : Int) < 1000003; decide), _, _, rfl, rfl, _, 7, rfl, rfl, _, 2147483629, rfl, rfl, (by show (0 : Int) < 2147483629; decide), rfl, _, some (.int n), ?_, ?_, rfl⟩
      · exact Int.emod_nonneg _ (by decide)
      · exact Int.lt_trans (Int.emod_lt_of_pos _ (by decide)) (by decide)
    · obtain ⟨rfl, mk, y, h0, h1, rfl⟩ := h
      refine ⟨.ref c, rfl, .int mk, rfl, by show 4 ≤ sizeLine; decide, fun b nb => ?_⟩
      have nbc : b ≠ c := fun e => by rw [e, hc] at nb; cases nb
      have s3 : Same H3 (upd H3 b (.lst [.ref c, .int 0, .int 0, .int mk])) := fun x o h => by rw [upd_ne (ne_of_none h nb)]; exact h
      exact q b c mk _ (s12.trans s3) nbc upd_same (s3 _ _ hc) h0 h1

theorem x_InvalidEdit (T : Top P w K mg base tb) : ExG xbV P w K mg base (clsOf mg tb) "InvalidEdit" "at" "InvalidEdit" :=
  exg_of T.ex_InvalidEdit sc_InvalidEdit___init__ fun X hN hs => by
    have v0 : ∀ q, PE X (.Name "self" q) (tVar 0) := fun q => pe_var (i := 0) (by rw [hN]; rfl) (.inl (by rw [hs]; rfl)) rfl rfl
    have v1 : ∀ q, PE X (.Name "at" q) (tVar 1) := fun q => pe_var (i := 1) (by rw [hN]; rfl) (.inl (by rw [hs]; rfl)) rfl rfl
    exact pss_cons (ps_osT xbV_ok (v0 _) (v1 _)) (pss_one (ps_osT xbV_ok (v0 _) pe_str))

theorem x_TooLong (T : Top P w K mg base tb) : ExG xbV P w K mg base (clsOf mg tb) "TooLong" "most" "TooLong" :=
  exg_of T.ex_TooLong sc_TooLong___init__ fun X hN hs => by
    have v0 : ∀ q, PE X (.Name "self" q) (tVar 0) := fun q => pe_var (i := 0) (by rw [hN]; rfl) (.inl (by rw [hs]; rfl)) rfl rfl
    have v1 : ∀ q, PE X (.Name "most" q) (tVar 1) := fun q => pe_var (i := 1) (by rw [hN]; rfl) (.inl (by rw [hs]; rfl)) rfl rfl
    exact pss_cons (ps_osT xbV_ok (v0 _) (v1 _)) (pss_one (ps_osT xbV_ok (v0 _) pe_str))

theorem q_ini_Merge (T : Top P w K mg base tb) : IniK P w K mg base (clsOf mg tb) "Merge" 1 (nEq 2) m_Merge___init__ := by
  obtain ⟨C, f, fd, h1, hM, F, hb⟩ := T.in_Merge
  refine ini_of (E := fun _ _ _ => False) h1 (clsOf_eq h1) hM F sc_Merge___init__ hb (fun cdv A outer s H E b x dx F0 H0 hr h0 => ?_) (fun ds w _ => rfl)
  have px := L2N.passes_call (E := E) (L2N.takes_of (X := cxOf (L2N.CX P w) P w K mg base ["self", "one", "other"] "Merge.__init__" (defScope s_Merge___init__) f cdv A outer s H E) rfl rfl rfl rfl) (fun _ _ _ _ h => h)
  exact (dss_cons (ds_fldI 0 (fldK T.fl_Merge_first) h0 (de_var 1))
    (dss_one (ds_fldI 0 (fldK T.fl_Merge_second) h0 (de_var 2))))

theorem f_Script___contains__ (T : Top P w K mg base tb) {f : Addr} {fd : FuncData} (F : Fun K "__contains__" "Script.__contains__" s_Script___contains__ f fd) : FnOk P w K mg base (L2N.CX P w) 1 f fd ["self", "edit"] (spM K (clsOf mg tb) 2 m_Script___contains__) := by
  refine fnok_of F sc_Script___contains__ (fun cdv hcv A outer s H E bx F0 hr => ?_) (fun ds w _ => rfl)
  have px := L2N.passes_call (E := E) (L2N.takes_of (X := cxOf (L2N.CX P w) P w K mg base ["self", "edit"] "Script.__contains__" (defScope s_Script___contains__) f cdv A outer s H E) rfl rfl rfl rfl) (fun _ _ _ _ h => h)
  exact (dss_one (ds_ret (de_cmp (op_inX (u65 hr)) (od_in rfl) (de_var 1) (de_fld (fldK T.fl_Script_kept) (de_var 0)))))
theorem q_mth_Script___contains__ (T : Top P w K mg base tb) : MthK P w K mg base (clsOf mg tb) "Script" "__contains__" 1 2 m_Script___contains__ := by
  obtain ⟨C, f, fd, h1, h2, h3, F, hb⟩ := T.mt_Script___contains__
  exact ⟨C, f, fd, _, clsOf_eq h1, h2, h3, f_Script___contains__ T F, hb⟩

theorem f_Script___eq__ (T : Top P w K mg base tb) {f : Addr} {fd : FuncData} (F : Fun K "__eq__" "Script.__eq__" s_Script___eq__ f fd) : FnOk P w K mg base (L2N.CX P w) 1 f fd ["self", "other"] (spM K (clsOf mg tb) 2 m_Script___eq__) := by
  refine fnok_of F sc_Script___eq__ (fun cdv hcv A outer s H E bx F0 hr => ?_) (fun ds w _ => rfl)
  have px := L2N.passes_call (E := E) (L2N.takes_of (X := cxOf (L2N.CX P w) P w K mg base ["self", "other"] "Script.__eq__" (defScope s_Script___eq__) f cdv A outer s H E) rfl rfl rfl rfl) (fun _ _ _ _ h => h)
  exact (dss_one (ds_ret (de_and (de_isG rfl T.ig_Script T.n_isinstance (de_var 1)) (de_one (de_cmp (op_eqX (u64 hr)) (od_eq rfl) (de_fld (fldK T.fl_Script_kept) (de_var 0)) (de_fld (fldK T.fl_Script_kept) (de_var 1)))))))
theorem q_ne_Script (T : Top P w K mg base tb) : NeK P w K mg base (clsOf mg tb) "Script" 1 m_Script___eq__ := by
  obtain ⟨C, f, fd, h1, h2, h3, h4, h5, F, hb⟩ := T.ne_Script
  exact ⟨C, f, fd, _, clsOf_eq h1, h2, h3, h4, h5, f_Script___eq__ T F, hb⟩
theorem q_op_Script___eq__ (T : Top P w K mg base tb) : OpK P w K mg base (clsOf mg tb) "Script" "__eq__" 1 m_Script___eq__ := by
  obtain ⟨C, f, fd, h1, h2, h3, h4, F, hb⟩ := T.op_Script___eq__
  exact ⟨C, f, fd, _, clsOf_eq h1, h2, h3, h4, f_Script___eq__ T F, hb⟩

theorem c_is_symbol (T : Top P w K mg base tb) : Cal P w K mg base (clsOf mg tb) "is_symbol" 1 1 m_is_symbol := by
  obtain ⟨f, fd, F, hm, hb⟩ := T.d_is_symbol
  refine cal_of (ps := ["thing"]) F sc_is_symbol hm hb (fun cdv hcv A outer s H E bx F0 hr => ?_) (fun ds w _ => rfl)
  have px := L2N.passes_call (E := E) (L2N.takes_of (X := cxOf (L2N.CX P w) P w K mg base ["thing"] "is_symbol" (defScope s_is_symbol) f cdv A outer s H E) rfl rfl rfl rfl) (fun _ _ _ _ h => h)
  exact (dss_one (ds_ret (de_cmp (op_inX (u65 hr)) (od_in rfl) (de_var 0) (de_tup (da_cons de_str (da_cons de_str da_nil))))))

theorem c_is_place (T : Top P w K mg base tb) : Cal P w K mg base (clsOf mg tb) "is_place" 2 1 m_is_place := by
  obtain ⟨f, fd, F, hm, hb⟩ := T.d_is_place
  refine cal_of (ps := ["thing"]) F sc_is_place hm hb (fun cdv hcv A outer s H E bx F0 hr => ?_) (fun ds w _ => rfl)
  have px := L2N.passes_call (E := E) (L2N.takes_of (X := cxOf (L2N.CX P w) P w K mg base ["thing", "symbol", "number", "end"] "is_place" (defScope s_is_place) f cdv A outer s H E) rfl rfl rfl rfl) (fun _ _ _ _ h => h)
  exact (dss_cons (ds_if (DW.t (dw_or (dt_not (dt_val (de_isi rfl kit_tuple T.n_tuple (by decide +kernel) T.n_isinstance (de_var 0)))) (dw_or1 (dt_cmp (op_neX (u64 hr)) (od_ne rfl) (de_len rfl T.n_len (da_cons (de_var 0) da_nil)) de_int)))) (dss_one (ds_ret de_bl)) dss_nil)
    (dss_cons (ds_asg (de_var 0) (dg_tup rfl (dgs_cons (dg_name 1 sc_is_place.nd) (dgs_cons (dg_name 2 sc_is_place.nd) (dgs_cons (dg_name 3 sc_is_place.nd) dgs_nil))) (fun _ h => pg_tup rfl h) (gs_len (gs_len (gs_len gs_len0)))))
    (dss_one (ds_ret (de_and (de_call rfl (c_is_symbol T) (hr.mono (by decide)) px (da_cons (de_var 1) da_nil)) (de_and (de_cmp (op_inX (u65 hr)) (od_in rfl) (de_var 2) (de_glb rfl T.g_NUMBERS)) (de_and (de_not (de_isi rfl kit_bool T.n_bool (by decide +kernel) T.n_isinstance (de_var 2))) (de_one (de_cmp (op_inX (u65 hr)) (od_in rfl) (de_var 3) (de_glb rfl T.g_ENDS))))))))))

theorem c_is_edit (T : Top P w K mg base tb) : Cal P w K mg base (clsOf mg tb) "is_edit" 3 1 m_is_edit := by
  obtain ⟨f, fd, F, hm, hb⟩ := T.d_is_edit
  refine cal_of (ps := ["thing"]) F sc_is_edit hm hb (fun cdv hcv A outer s H E bx F0 hr => ?_) (fun ds w _ => rfl)
  have px := L2N.passes_call (E := E) (L2N.takes_of (X := cxOf (L2N.CX P w) P w K mg base ["thing", "word"] "is_edit" (defScope s_is_edit) f cdv A outer s H E) rfl rfl rfl rfl) (fun _ _ _ _ h => h)
  exact (dss_cons (ds_if (DW.t (dw_or (dt_not (dt_val (de_isi rfl kit_tuple T.n_tuple (by decide +kernel) T.n_isinstance (de_var 0)))) (dw_or1 (dt_cmp (op_eqX (u64 hr)) (od_eq rfl) (de_len rfl T.n_len (da_cons (de_var 0) da_nil)) de_int)))) (dss_one (ds_ret de_bl)) dss_nil)
    (dss_cons (ds_set 1 (de_ix rfl (de_var 0) de_int) sc_is_edit.nd)
    (dss_cons (ds_if (dt_cmp (op_eqX (u64 hr)) (od_eq rfl) (de_var 1) de_str) (dss_one (ds_ret (de_cmp (op_eqX (u64 hr)) (od_eq rfl) (de_len rfl T.n_len (da_cons (de_var 0) da_nil)) de_int))) dss_nil)
    (dss_cons (ds_if (dt_cmp (op_inX (u65 hr)) (od_in rfl) (de_var 1) (de_tup (da_cons de_str (da_cons de_str da_nil)))) (dss_one (ds_ret (de_and (de_cmp (op_eqX (u64 hr)) (od_eq rfl) (de_len rfl T.n_len (da_cons (de_var 0) da_nil)) de_int) (de_one (de_call rfl (c_is_symbol T) (hr.mono (by decide)) px (da_cons (de_ix rfl (de_var 0) de_int) da_nil)))))) dss_nil)
    (dss_cons (ds_if (dt_cmp (op_inX (u65 hr)) (od_in rfl) (de_var 1) (de_tup (da_cons de_str (da_cons de_str da_nil)))) (dss_one (ds_ret (de_and (de_cmp (op_eqX (u64 hr)) (od_eq rfl) (de_len rfl T.n_len (da_cons (de_var 0) da_nil)) de_int) (de_and (de_call rfl (c_is_place T) (hr.mono (by decide)) px (da_cons (de_ix rfl (de_var 0) de_int) da_nil)) (de_one (de_call rfl (c_is_symbol T) (hr.mono (by decide)) px (da_cons (de_ix rfl (de_var 0) de_int) da_nil))))))) dss_nil)
    (dss_one (ds_ret (de_and (de_cmp (op_inX (u65 hr)) (od_in rfl) (de_var 1) (de_tup (da_cons de_str (da_cons de_str da_nil)))) (de_and (de_cmp (op_eqX (u64 hr)) (od_eq rfl) (de_len rfl T.n_len (da_cons (de_var 0) da_nil)) de_int) (de_one (de_call rfl (c_is_place T) (hr.mono (by decide)) px (da_cons (de_ix rfl (de_var 0) de_int) da_nil))))))))))))

theorem q_ini_Script (T : Top P w K mg base tb) : IniK P w K mg base (clsOf mg tb) "Script" 4 (nLe 1000) m_Script___init__ := by
  obtain ⟨C, f, fd, h1, hM, F⟩ := T.in_Script
  refine ini_ofV (nmax := 1000) h1 (clsOf_eq h1) hM F sc_Script___init__ (fun _ _ _ _ _ _ us rest hl => match us, rest, hl with | [_], [], _ => rfl | [_], _ :: _, _ => rfl) (by decide) (fun cdv A outer s H E b x dx F0 H0 hr h0 => ?_) (fun ds w _ => rfl)
  have px := L2N.passes_call (E := E) (L2N.takes_of (X := cxOf (L2N.CX P w) P w K mg base ["self", "edits", "at", "edit"] "Script.__init__" (defScope s_Script___init__) f cdv A outer s H E) rfl rfl rfl rfl) (fun _ _ _ _ h => h)
  have tk := L2N.takes_of (X := cxOf (L2N.CX P w) P w K mg base ["self", "edits", "at", "edit"] "Script.__init__" (defScope s_Script___init__) f cdv A outer s H E) rfl rfl rfl rfl
  have p0 := L2N.passes_call (E := fun _ _ _ => False) tk (fun _ _ _ _ h => h.elim)
  exact (dss_cons (ds_for (passes_of rfl) rfl (di_enumT rfl T.n_enumerate (de_var 1)) (dg_tup rfl (dgs_cons (dg_name 2 sc_Script___init__.nd) (dgs_cons (dg_name 3 sc_Script___init__.nd) dgs_nil)) (fun _ h => pg_tup rfl h) (gs_len (gs_len gs_len0))) (dss_one (ds_if (dt_not (dt_val (de_call rfl (c_is_edit T) (hr.mono (by decide)) px (da_cons (de_var 3) da_nil)))) (dss_one (ds_raiseG xbV_ok rfl (x_InvalidEdit T) (hr.mono (by decide)) tk (de_var 2) p0)) dss_nil)))
    (dss_cons (ds_if (dt_cmp op_gt od_B0 (de_len rfl T.n_len (da_cons (de_var 1) da_nil)) (de_cst T.cs_Script_MOST)) (dss_one (ds_raiseG xbV_ok rfl (x_TooLong T) (hr.mono (by decide)) tk (de_cst T.cs_Script_MOST) p0)) dss_nil)
    (dss_one (ds_fldI 0 (fldK T.fl_Script_kept) h0 (DO.de (do_list rfl T.n_list (da_cons (de_var 1) da_nil)))))))

theorem f_Script___len__ (T : Top P w K mg base tb) {f : Addr} {fd : FuncData} (F : Fun K "__len__" "Script.__len__" s_Script___len__ f fd) : FnOk P w K mg base (L2N.CX P w) 1 f fd ["self"] (spM K (clsOf mg tb) 1 m_Script___len__) := by
  refine fnok_of F sc_Script___len__ (fun cdv hcv A outer s H E bx F0 hr => ?_) (fun ds w _ => rfl)
  have px := L2N.passes_call (E := E) (L2N.takes_of (X := cxOf (L2N.CX P w) P w K mg base ["self"] "Script.__len__" (defScope s_Script___len__) f cdv A outer s H E) rfl rfl rfl rfl) (fun _ _ _ _ h => h)
  exact (dss_one (ds_ret (de_len rfl T.n_len (da_cons (de_fld (fldK T.fl_Script_kept) (de_var 0)) da_nil))))
theorem q_mth_Script___len__ (T : Top P w K mg base tb) : MthK P w K mg base (clsOf mg tb) "Script" "__len__" 1 1 m_Script___len__ := by
  obtain ⟨C, f, fd, h1, h2, h3, F, hb⟩ := T.mt_Script___len__
  exact ⟨C, f, fd, _, clsOf_eq h1, h2, h3, f_Script___len__ T F, hb⟩

theorem f_Script___repr__ (T : Top P w K mg base tb) {f : Addr} {fd : FuncData} (F : Fun K "__repr__" "Script.__repr__" s_Script___repr__ f fd) : FnOk P w K mg base (L2N.CX P w) 1 f fd ["self"] (spM K (clsOf mg tb) 1 m_Script___repr__) := by
  refine fnok_of F sc_Script___repr__ (fun cdv hcv A outer s H E bx F0 hr => ?_) (fun ds w _ => rfl)
  have px := L2N.passes_call (E := E) (L2N.takes_of (X := cxOf (L2N.CX P w) P w K mg base ["self"] "Script.__repr__" (defScope s_Script___repr__) f cdv A outer s H E) rfl rfl rfl rfl) (fun _ _ _ _ h => h)
  exact (dss_one (ds_ret (de_fstr (.cons de_str (.cons (de_fmt (de_len rfl T.n_len (da_cons (de_fld (fldK T.fl_Script_kept) (de_var 0)) da_nil))) (.cons de_str .nil))))))
theorem q_mth_Script___repr__ (T : Top P w K mg base tb) : MthK P w K mg base (clsOf mg tb) "Script" "__repr__" 1 1 m_Script___repr__ := by
  obtain ⟨C, f, fd, h1, h2, h3, F, hb⟩ := T.mt_Script___repr__
  exact ⟨C, f, fd, _, clsOf_eq h1, h2, h3, f_Script___repr__ T F, hb⟩

theorem fO_Script_edits (T : Top P w K mg base tb) {f : Addr} {fd : FuncData} (F : Fun K "edits" "Script.edits" s_Script_edits f fd) : FnOk P w K mg base (L2N.CX P w) 1 f fd ["self"] (spMO K (clsOf mg tb) 1 mO_Script_edits) := by
  refine fnok_ofO F sc_Script_edits (fun cdv hcv A outer s H E bx F0 hr => ?_)
  have px := L2N.passes_call (E := E) (L2N.takes_of (X := cxOf (L2N.CX P w) P w K mg base ["self"] "Script.edits" (defScope s_Script_edits) f cdv A outer s H E) rfl rfl rfl rfl) (fun _ _ _ _ h => h)
  exact (dsso_ret (do_list rfl T.n_list (da_cons (de_fld (fldK T.fl_Script_kept) (de_var 0)) da_nil)))
theorem f_Script_edits (T : Top P w K mg base tb) {f : Addr} {fd : FuncData} (F : Fun K "edits" "Script.edits" s_Script_edits f fd) : FnOk P w K mg base (L2N.CX P w) 1 f fd ["self"] (spM K (clsOf mg tb) 1 m_Script_edits) := fnok_frz (fO_Script_edits T F)
theorem q_mthO_Script_edits (T : Top P w K mg base tb) : MthO P w K mg base (clsOf mg tb) "Script" "edits" 1 1 mO_Script_edits := by
  obtain ⟨C, f, fd, h1, h2, h3, F, hb⟩ := T.mt_Script_edits
  exact ⟨C, f, fd, _, clsOf_eq h1, h2, h3, fO_Script_edits T F, hb⟩
theorem q_mth_Script_edits (T : Top P w K mg base tb) : MthK P w K mg base (clsOf mg tb) "Script" "edits" 1 1 m_Script_edits := by
  obtain ⟨C, f, fd, h1, h2, h3, F, hb⟩ := T.mt_Script_edits
  exact ⟨C, f, fd, _, clsOf_eq h1, h2, h3, f_Script_edits T F, hb⟩

theorem c_L_draw (T : Top P w K mg base tb) : Cal P w K mg base (clsOf mg tb) "_law_draw" 1 2 m_L_draw := by
  obtain ⟨f, fd, F, hm, hb⟩ := T.d_L_draw
  refine cal_of (ps := ["_law_box", "_law_many"]) F sc_L_draw hm hb (fun cdv hcv A outer s H E bx F0 hr => ?_) (fun ds w _ => rfl)
  have px := L2N.passes_call (E := E) (L2N.takes_of (X := cxOf (L2N.CX P w) P w K mg base ["_law_box", "_law_many", "_law_cell", "_law_found"] "_law_draw" (defScope s_L_draw) f cdv A outer s H E) rfl rfl rfl rfl) (fun _ _ _ _ h => h)
  exact (dss_cons (ds_if (DW.t (dw_and (dt_cmp (op_eqX (u64 hr)) (od_eq rfl) (de_bx 0 2 rfl) de_int) (dw_and1 (dt_cmp op_ltX od_lt (de_bx 0 1 rfl) (de_len rfl T.n_len (da_cons (de_bx 0 0 rfl) da_nil)))))) (dss_cons (ds_set 2 (de_ix rfl (de_bx 0 0 rfl) (de_bx 0 1 rfl)) sc_L_draw.nd)
    (dss_cons (ds_bx 0 1 (de_op op_addX (od_add rfl) (de_bx 0 1 rfl) de_int))
    (dss_one (ds_if (dt_cmp op_ge od_B0 (de_var 2) (de_op op_pow od_pow de_int de_int)) (dss_one (ds_bx 0 2 (de_var 2))) (dss_one (ds_bx 0 3 (de_op op_mod od_mod (de_op op_addX (od_add rfl) (de_op op_addX (od_add rfl) (de_op op_mulX od_mul (de_bx 0 3 rfl) de_int) (de_op op_mod od_mod (de_var 2) de_int)) (de_op op_mulX od_mul (de_bx 0 1 rfl) de_int)) de_int))))))) dss_nil)
    (dss_cons (ds_if (dt_cmp op_gt od_B0 (de_bx 0 2 rfl) de_int) (dss_cons (ds_set 3 (de_op op_mod od_mod (de_bx 0 2 rfl) (de_var 1)) sc_L_draw.nd)
    (dss_cons (ds_bx 0 2 (de_op op_fdiv od_div (de_bx 0 2 rfl) (de_var 1)))
    (dss_one (ds_ret (de_var 3))))) dss_nil)
    (dss_cons (ds_bx 0 3 (de_op op_mod od_mod (de_op op_addX (od_add rfl) (de_op op_mulX od_mul (de_bx 0 3 rfl) de_int) de_int) de_int))
    (dss_one (ds_ret (de_op op_mod od_mod (de_op op_fdiv od_div (de_op op_mod od_mod (de_op op_mulX od_mul (de_bx 0 3 rfl) (de_bx 0 3 rfl)) de_int) de_int) (de_var 1)))))))

theorem c_L_any (T : Top P w K mg base tb) : Cal P w K mg base (clsOf mg tb) "_law_any" 2 2 m_L_any := by
  obtain ⟨f, fd, F, hm, hb⟩ := T.d_L_any
  refine cal_of (ps := ["_law_box", "_law_things"]) F sc_L_any hm hb (fun cdv hcv A outer s H E bx F0 hr => ?_) (fun ds w _ => rfl)
  have px := L2N.passes_call (E := E) (L2N.takes_of (X := cxOf (L2N.CX P w) P w K mg base ["_law_box", "_law_things"] "_law_any" (defScope s_L_any) f cdv A outer s H E) rfl rfl rfl rfl) (fun _ _ _ _ h => h)
  exact (dss_one (ds_ret (de_ix rfl (de_var 1) (de_call rfl (c_L_draw T) (hr.mono (by decide)) px (da_cons (de_var 0) (da_cons (de_len rfl T.n_len (da_cons (de_var 1) da_nil)) da_nil))))))

theorem c_L_place (T : Top P w K mg base tb) : Cal P w K mg base (clsOf mg tb) "_law_place" 3 1 m_L_place := by
  obtain ⟨f, fd, F, hm, hb⟩ := T.d_L_place
  refine cal_of (ps := ["_law_box"]) F sc_L_place hm hb (fun cdv hcv A outer s H E bx F0 hr => ?_) (fun ds w _ => rfl)
  have px := L2N.passes_call (E := E) (L2N.takes_of (X := cxOf (L2N.CX P w) P w K mg base ["_law_box"] "_law_place" (defScope s_L_place) f cdv A outer s H E) rfl rfl rfl rfl) (fun _ _ _ _ h => h)
  exact (dss_one (ds_ret (de_tup (da_cons (de_call rfl (c_L_any T) (hr.mono (by decide)) px (da_cons (de_var 0) (da_cons de_str da_nil))) (da_cons (de_op op_addX (od_add rfl) de_int (de_call rfl (c_L_draw T) (hr.mono (by decide)) px (da_cons (de_var 0) (da_cons de_int da_nil)))) (da_cons (de_call rfl (c_L_any T) (hr.mono (by decide)) px (da_cons (de_var 0) (da_cons (DO.de (do_lst (da_cons de_str (da_cons de_str da_nil)))) da_nil))) da_nil))))))

theorem c_L_edit (T : Top P w K mg base tb) : Cal P w K mg base (clsOf mg tb) "_law_edit" 4 1 m_L_edit := by
  obtain ⟨f, fd, F, hm, hb⟩ := T.d_L_edit
  refine cal_of (ps := ["_law_box"]) F sc_L_edit hm hb (fun cdv hcv A outer s H E bx F0 hr => ?_) (fun ds w _ => rfl)
  have px := L2N.passes_call (E := E) (L2N.takes_of (X := cxOf (L2N.CX P w) P w K mg base ["_law_box", "_law_word", "_law_spot"] "_law_edit" (defScope s_L_edit) f cdv A outer s H E) rfl rfl rfl rfl) (fun _ _ _ _ h => h)
  exact (dss_cons (ds_set 1 (de_call rfl (c_L_any T) (hr.mono (by decide)) px (da_cons (de_var 0) (da_cons (DO.de (do_lst (da_cons de_str (da_cons de_str (da_cons de_str (da_cons de_str (da_cons de_str (da_cons de_str (da_cons de_str (da_cons de_str (da_cons de_str da_nil))))))))))) da_nil))) sc_L_edit.nd)
    (dss_cons (ds_if (dt_cmp (op_eqX (u64 hr)) (od_eq rfl) (de_var 1) de_str) (dss_one (ds_ret (de_tup (da_cons (de_var 1) da_nil)))) dss_nil)
    (dss_cons (ds_if (dt_cmp (op_inX (u65 hr)) (od_in rfl) (de_var 1) (de_tup (da_cons de_str (da_cons de_str da_nil)))) (dss_one (ds_ret (de_tup (da_cons (de_var 1) (da_cons (de_call rfl (c_L_any T) (hr.mono (by decide)) px (da_cons (de_var 0) (da_cons de_str da_nil))) da_nil))))) dss_nil)
    (dss_cons (ds_set 2 (de_call rfl (c_L_place T) (hr.mono (by decide)) px (da_cons (de_var 0) da_nil)) sc_L_edit.nd)
    (dss_one (ds_ret (de_if (dt_cmp (op_inX (u65 hr)) (od_in rfl) (de_var 1) (de_tup (da_cons de_str (da_cons de_str da_nil)))) (de_tup (da_cons (de_var 1) (da_cons (de_var 2) (da_cons (de_call rfl (c_L_any T) (hr.mono (by decide)) px (da_cons (de_var 0) (da_cons de_str da_nil))) da_nil)))) (de_tup (da_cons (de_var 1) (da_cons (de_var 2) da_nil))))))))))

theorem c_L_edits (T : Top P w K mg base tb) : Cal P w K mg base (clsOf mg tb) "_law_edits" 5 2 m_L_edits := by
  obtain ⟨f, fd, F, hm, hb⟩ := T.d_L_edits
  refine cal_of (ps := ["_law_box", "_law_most"]) F sc_L_edits hm hb (fun cdv hcv A outer s H E bx F0 hr => ?_) (fun ds w _ => rfl)
  have px := L2N.passes_call (E := E) (L2N.takes_of (X := cxOf (L2N.CX P w) P w K mg base ["_law_box", "_law_most", "_law_k"] "_law_edits" (defScope s_L_edits) f cdv A outer s H E) rfl rfl rfl rfl) (fun _ _ _ _ h => h)
  exact (dss_one (ds_ret (DO.de (do_lc [("_law_k", 2)] rfl sc_L_edits.nd (di_range T.n_range (da_cons (de_call rfl (c_L_draw T) (hr.mono (by decide)) px (da_cons (de_var 0) (da_cons (de_op op_addX (od_add rfl) (de_var 1) de_int) da_nil))) da_nil)) (blkOk_by (own := [("_law_k", 2)]) (N := ["_law_box", "_law_most", "_law_k"]) (sc := defScope s_L_edits) (by decide +kernel)) (fun _ _ _ _ _ => (dg_name 2 sc_L_edits.nd)) (fun _ _ _ _ _ => dts_nil) (fun _ _ _ _ _ => (de_call rfl (c_L_edit T) (hr.mono (by decide)) passLN (da_cons (de_var 0) da_nil)))))))

theorem c_L_whole (T : Top P w K mg base tb) : Cal P w K mg base (clsOf mg tb) "_law_whole" 1 1 m_L_whole := by
  obtain ⟨f, fd, F, hm, hb⟩ := T.d_L_whole
  refine cal_of (ps := ["_law_found"]) F sc_L_whole hm hb (fun cdv hcv A outer s H E bx F0 hr => ?_) (fun ds w _ => rfl)
  have px := L2N.passes_call (E := E) (L2N.takes_of (X := cxOf (L2N.CX P w) P w K mg base ["_law_found"] "_law_whole" (defScope s_L_whole) f cdv A outer s H E) rfl rfl rfl rfl) (fun _ _ _ _ h => h)
  exact (dss_one (ds_ret (de_and (de_isi rfl kit_int T.n_int (by decide +kernel) T.n_isinstance (de_var 0)) (de_one (de_not (de_isi rfl kit_bool T.n_bool (by decide +kernel) T.n_isinstance (de_var 0)))))))

theorem c_L_same (T : Top P w K mg base tb) : ∀ k : Nat, Cal P w K mg base (clsOf mg tb) "_law_same" (k + 1) 2 (mSame k)
  | 0 => by
    obtain ⟨f, fd, F, hm, hb⟩ := T.d_L_same
    exact cal_of (ps := ["_law_found", "_law_due"]) (k := 0) F sc_L_same hm hb (body := fun _ _ => .bad) (fun cdv hcv A outer s H E bx F0 hr => ⟨_, pss_never, fun _ _ _ _ _ _ _ _ h => h⟩) (fun ds w h => absurd (mSame_zero ds w) h)
  | k + 1 => by
    obtain ⟨f, fd, F, hm, hb⟩ := T.d_L_same
    have ih := c_L_same T k
    refine cal_of (ps := ["_law_found", "_law_due"]) F sc_L_same hm hb (fun cdv hcv A outer s H E bx F0 hr => ?_) (same_ok k)
    have px := L2N.passes_call (E := E) (L2N.takes_of (X := cxOf (L2N.CX P w) P w K mg base ["_law_found", "_law_due", "_law_one", "_law_other"] "_law_same" (defScope s_L_same) f cdv A outer s H E) rfl rfl rfl rfl) (fun _ _ _ _ h => h)
    exact (dss_cons (ds_if (dt_cmp op_isN od_is (de_var 1) de_non) (dss_one (ds_ret (de_cmp op_isN od_is (de_var 0) de_non))) dss_nil)
    (dss_cons (ds_if (dt_val (de_isi rfl kit_bool T.n_bool (by decide +kernel) T.n_isinstance (de_var 1))) (dss_one (ds_ret (de_and (de_isi rfl kit_bool T.n_bool (by decide +kernel) T.n_isinstance (de_var 0)) (de_one (de_cmp (op_eqX (u64 hr)) (od_eq rfl) (de_var 0) (de_var 1)))))) dss_nil)
    (dss_cons (ds_if (dt_val (de_isi rfl kit_int T.n_int (by decide +kernel) T.n_isinstance (de_var 1))) (dss_one (ds_ret (de_and (de_call rfl (c_L_whole T) (hr.mono (by omega)) px (da_cons (de_var 0) da_nil)) (de_one (de_cmp (op_eqX (u64 hr)) (od_eq rfl) (de_var 0) (de_var 1)))))) dss_nil)
    (dss_cons (ds_if (dt_val (de_isi rfl kit_str T.n_str (by decide +kernel) T.n_isinstance (de_var 1))) (dss_one (ds_ret (de_and (de_isi rfl kit_str T.n_str (by decide +kernel) T.n_isinstance (de_var 0)) (de_one (de_cmp (op_eqX (u64 hr)) (od_eq rfl) (de_var 0) (de_var 1)))))) dss_nil)
    (dss_cons (ds_if (DW.t (dw_and (dt_val (de_isi rfl kit_tuple T.n_tuple (by decide +kernel) T.n_isinstance (de_var 1))) (dw_and1 (dt_not (dt_val (de_isi rfl kit_tuple T.n_tuple (by decide +kernel) T.n_isinstance (de_var 0))))))) (dss_one (ds_ret de_bl)) dss_nil)
    (dss_cons (ds_if (DW.t (dw_and (dt_val (de_isi rfl kit_list T.n_list (by decide +kernel) T.n_isinstance (de_var 1))) (dw_and1 (dt_not (dt_val (de_isi rfl kit_list T.n_list (by decide +kernel) T.n_isinstance (de_var 0))))))) (dss_one (ds_ret de_bl)) dss_nil)
    (dss_one (ds_ret (de_and (de_cmp (op_eqX (u64 hr)) (od_eq rfl) (de_len rfl T.n_len (da_cons (de_var 0) da_nil)) (de_len rfl T.n_len (da_cons (de_var 1) da_nil))) (de_one (de_all rfl rfl T.n_all (da_cons (DO.de (do_lc [("_law_one", 2), ("_law_other", 3)] rfl sc_L_same.nd (di_zip rfl T.n_zip (da_cons (de_var 0) (da_cons (de_var 1) da_nil))) (blkOk_by (own := [("_law_one", 2), ("_law_other", 3)]) (N := ["_law_found", "_law_due", "_law_one", "_law_other"]) (sc := defScope s_L_same) (by decide +kernel)) (fun _ _ _ _ _ => (dg_tup rfl (dgs_cons (dg_name 2 sc_L_same.nd) (dgs_cons (dg_name 3 sc_L_same.nd) dgs_nil)) (fun _ h => pg_tup rfl h) (gs_len (gs_len gs_len0)))) (fun _ _ _ _ _ => dts_nil) (fun _ _ _ _ _ => (de_call rfl ih (hr.mono (by omega)) passLN (da_cons (de_var 2) (da_cons (de_var 3) da_nil)))))) da_nil))))))))))))

theorem f_Script___add__ (T : Top P w K mg base tb) {f : Addr} {fd : FuncData} (F : Fun K "__add__" "Script.__add__" s_Script___add__ f fd) : FnOk P w K mg base (L2N.CX P w) 6 f fd ["self", "other"] (spM K (clsOf mg tb) 2 m_Script___add__) := by
  refine fnok_of F sc_Script___add__ (fun cdv hcv A outer s H E bx F0 hr => ?_) (fun ds w _ => rfl)
  have px := L2N.passes_call (E := E) (L2N.takes_of (X := cxOf (L2N.CX P w) P w K mg base ["self", "other", "edits"] "Script.__add__" (defScope s_Script___add__) f cdv A outer s H E) rfl rfl rfl rfl) (fun _ _ _ _ h => h)
  exact (dss_cons (ds_set 2 (de_op op_addX (od_add rfl) (de_fld (fldK T.fl_Script_kept) (de_var 0)) (de_fld (fldK T.fl_Script_kept) (de_var 1))) sc_Script___add__.nd)
    (dss_one (ds_ret (de_makeS rfl (q_ini_Script T) (hr.mono (by decide)) px (de_var 2)))))
theorem q_op_Script___add__ (T : Top P w K mg base tb) : OpK P w K mg base (clsOf mg tb) "Script" "__add__" 6 m_Script___add__ := by
  obtain ⟨C, f, fd, h1, h2, h3, h4, F, hb⟩ := T.op_Script___add__
  exact ⟨C, f, fd, _, clsOf_eq h1, h2, h3, h4, f_Script___add__ T F, hb⟩

theorem c_L_script (T : Top P w K mg base tb) : Cal P w K mg base (clsOf mg tb) "_law_script" 7 1 m_L_script := by
  obtain ⟨f, fd, F, hm, hb⟩ := T.d_L_script
  refine cal_of (ps := ["_law_edits_here"]) F sc_L_script hm hb (fun cdv hcv A outer s H E bx F0 hr => ?_) (fun ds w _ => rfl)
  have px := L2N.passes_call (E := E) (L2N.takes_of (X := cxOf (L2N.CX P w) P w K mg base ["_law_edits_here", "_law_found", "_law_each"] "_law_script" (defScope s_L_script) f cdv A outer s H E) rfl rfl rfl rfl) (fun _ _ _ _ h => h)
  exact (dss_cons (ds_set 1 (de_make0 rfl (q_ini_Script T) (hr.mono (by decide)) px) sc_L_script.nd)
    (dss_cons (ds_for (passes_of rfl) rfl (di_any rfl (de_var 0)) (dg_name 2 sc_L_script.nd) (dss_one (ds_set 1 (de_own rfl (q_op_Script___add__ T) (hr.mono (by decide)) px (de_var 1) (de_make rfl (q_ini_Script T) (hr.mono (by decide)) px (da_cons (de_var 2) da_nil))) sc_L_script.nd)))
    (dss_one (ds_ret (de_var 1)))))

theorem ok_law (T : Top P w K mg base tb) : ∃ f fd, Fun K "law" "law" s_law f fd ∧ mg "law" = some (.ref f) ∧ FnOk P w K mg base (L2N.CX P w) 10 f fd ["_law_script_here"] (spLaw K tb) := by
  obtain ⟨f, fd, F, hm, hb⟩ := T.d_law
  obtain ⟨fo, fdo, FO, mo, ko, bo⟩ := ok_open (P := P) (w := w) (base := base) (tb := tb) T
  obtain ⟨fl, cc, PP, hml, hcc, TB, hmem, huni⟩ := T.lam_law
  obtain rfl : f = fl := by rw [hm] at hml; cases hml; rfl
  refine ⟨f, fd, F, hm, law_of (cls := clsOf mg tb) (body := g_law) F sc_law ⟨_, rfl⟩ rfl (fun cdv A outer s H E hr => ps_set (i := 1) sc_law.nd rfl (.inr rfl) (pe_call FO (hr.mono (by decide)) rfl mo ko bo .nil passLN (pa_cons (pv 0) pa_nil))) (fun cdv hcv A outer s H E bx F0 H0 hcl hr => ?_) (fun w _ => law_true w)⟩
  obtain rfl := hcc cdv hcv
  have px := L2N.passes_call (E := E) (L2N.takes_of (X := cxOf (L2N.CX P w) P w K mg base ["_law_script_here", "_law_box", "_law_turn", "_law_some", "_law_others", "_law_one", "_law_two", "_law_text", "_law_edit_here", "_law_bad", "_law_a", "_law_b", "_law_c", "_law_d", "_law_e", "_law_asks", "_law_dues", "_law_k", "_law_ask"] "law" (defScope s_law) f (.ref cc) A outer s H E) rfl rfl rfl rfl) (fun _ _ _ _ h => h)
  exact (dss_cons (ds_for (passes_of rfl) rfl (di_range T.n_range (da_cons de_int da_nil)) (dg_name 2 sc_law.nd) (dss_cons (ds_par 3 4 (fun _ h => ps_par rfl sc_law.nd rfl rfl (by decide) rfl rfl h rfl) (da_cons (de_call rfl (c_L_edits T) (hr.mono (by decide)) px (da_cons (de_var 1) (da_cons de_int da_nil))) (da_cons (de_call rfl (c_L_edits T) (hr.mono (by decide)) px (da_cons (de_var 1) (da_cons de_int da_nil))) da_nil)))
    (dss_cons (ds_if (dt_cmp (op_eqX (u64 hr)) (od_eq rfl) (de_call rfl (c_L_draw T) (hr.mono (by decide)) px (da_cons (de_var 1) (da_cons de_int da_nil))) de_int) (dss_one (ds_set 4 (DO.de (do_list rfl T.n_list (da_cons (de_var 3) da_nil))) sc_law.nd)) dss_nil)
    (dss_cons (ds_par 5 6 (fun _ h => ps_par rfl sc_law.nd rfl rfl (by decide) rfl rfl h rfl) (da_cons (de_call rfl (c_L_script T) (hr.mono (by decide)) px (da_cons (de_var 3) da_nil)) (da_cons (de_call rfl (c_L_script T) (hr.mono (by decide)) px (da_cons (de_var 4) da_nil)) da_nil)))
    (dss_cons (ds_set 7 (de_op op_addX (od_add rfl) (de_op op_addX (od_add rfl) de_str (de_strI T.n_str (da_cons (de_len rfl T.n_len (da_cons (de_var 3) da_nil)) da_nil))) de_str) sc_law.nd)
    (dss_cons (ds_if (dt_not (dt_val (de_call rfl (c_L_same T 8) (hr.mono (by decide)) px (da_cons (DO.de (do_lst (da_cons (de_meth0 rfl (q_mth_Script_edits T) (hr.mono (by decide)) px (de_var 5)) (da_cons (de_lenI rfl (q_mth_Script___len__ T) (hr.mono (by decide)) px T.n_len (de_var 5)) (da_cons (de_reprI rfl (q_mth_Script___repr__ T) (hr.mono (by decide)) px T.n_repr (de_var 5)) da_nil))))) (da_cons (DO.de (do_lst (da_cons (de_var 3) (da_cons (de_len rfl T.n_len (da_cons (de_var 3) da_nil)) (da_cons (de_var 7) da_nil))))) da_nil))))) (dss_one (ds_ret de_bl)) dss_nil)
    (dss_cons (ds_set 8 (de_call rfl (c_L_edit T) (hr.mono (by decide)) px (da_cons (de_var 1) da_nil)) sc_law.nd)
    (dss_cons (ds_if (dt_not (dt_val (de_call rfl (c_L_same T 8) (hr.mono (by decide)) px (da_cons (DO.de (do_lst (da_cons (de_ownEq rfl (q_op_Script___eq__ T) (hr.mono (by decide)) px (de_var 5) (de_var 6)) (da_cons (de_ownNe rfl (q_ne_Script T) (hr.mono (by decide)) px (de_var 5) (de_var 6)) (da_cons (de_ownIn rfl (q_mth_Script___contains__ T) (hr.mono (by decide)) px (de_var 8) (de_var 5)) da_nil))))) (da_cons (DO.de (do_lst (da_cons (de_cmp (op_eqX (u64 hr)) (od_eq rfl) (de_var 3) (de_var 4)) (da_cons (de_cmp (op_neX (u64 hr)) (od_ne rfl) (de_var 3) (de_var 4)) (da_cons (de_cmp (op_inX (u65 hr)) (od_in rfl) (de_var 8) (de_var 3)) da_nil))))) da_nil))))) (dss_one (ds_ret de_bl)) dss_nil)
    (dss_cons (ds_if (dt_not (dt_val (de_call rfl (c_L_same T 8) (hr.mono (by decide)) px (da_cons (DO.de (do_lst (da_cons (de_ownEqB rfl (q_op_Script___eq__ T) T.no_Script (hr.mono (by decide)) px (de_var 5) (de_var 3)) (da_cons (de_ownEqB rfl (q_op_Script___eq__ T) T.no_Script (hr.mono (by decide)) px (de_var 5) de_str) (da_cons (de_ownEqC rfl (q_op_Script___eq__ T) T.nc_Merge_Script (hr.mono (by decide)) px (de_var 5) (de_make rfl (q_ini_Merge T) (hr.mono (by decide)) px (da_cons (de_var 5) (da_cons (de_var 6) da_nil)))) da_nil))))) (da_cons (DO.de (do_lst (da_cons de_bl (da_cons de_bl (da_cons de_bl da_nil))))) da_nil))))) (dss_one (ds_ret de_bl)) dss_nil)
    (dss_cons (ds_appT (do_meth0 rfl (q_mthO_Script_edits T) (hr.mono (by decide)) px (de_var 5)) (de_tup (da_cons de_str da_nil)))
    (dss_cons (ds_if (dt_not (dt_val (de_call rfl (c_L_same T 8) (hr.mono (by decide)) px (da_cons (de_meth0 rfl (q_mth_Script_edits T) (hr.mono (by decide)) px (de_var 5)) (da_cons (de_var 3) da_nil))))) (dss_one (ds_ret de_bl)) dss_nil)
    (dss_cons (ds_set 9 (de_call rfl (c_L_any T) (hr.mono (by decide)) px (da_cons (de_var 1) (da_cons (DO.de (do_lst (da_cons (de_tup da_nil) (da_cons (de_tup (da_cons de_str da_nil)) (da_cons (de_tup (da_cons de_str (da_cons (de_tup (da_cons de_str (da_cons de_int (da_cons de_str da_nil)))) da_nil))) (da_cons (de_tup (da_cons de_str (da_cons de_str da_nil))) da_nil)))))) da_nil))) sc_law.nd)
    (dss_cons (ds_set 10 (de_var 8) sc_law.nd)
    (dss_cons (ds_asg (DO.de (do_lc [("_law_k", 17)] rfl sc_law.nd (di_range T.n_range (da_cons de_int da_nil)) (blkOk_by (own := [("_law_k", 17)]) (N := ["_law_script_here", "_law_box", "_law_turn", "_law_some", "_law_others", "_law_one", "_law_two", "_law_text", "_law_edit_here", "_law_bad", "_law_a", "_law_b", "_law_c", "_law_d", "_law_e", "_law_asks", "_law_dues", "_law_k", "_law_ask"]) (sc := defScope s_law) (by decide +kernel)) (fun _ _ _ _ _ => (dg_name 17 sc_law.nd)) (fun _ _ _ _ _ => dts_nil) (fun _ _ _ _ _ => (de_call rfl (c_L_edit T) (hr.mono (by decide)) passLN (da_cons (de_var 1) da_nil))))) (dg_seq rfl (dgs_cons (dg_name 11 sc_law.nd) (dgs_cons (dg_name 12 sc_law.nd) (dgs_cons (dg_name 13 sc_law.nd) (dgs_cons (dg_name 14 sc_law.nd) dgs_nil)))) (fun _ h => pg_tup rfl h) (fun _ h => pg_unl rfl h) (gs_len (gs_len (gs_len (gs_len gs_len0))))))
    (dss_lamsA 15 (ls := la_law_0) (by rfl) hcl (.cons (pe_lam0 TB rfl hmem huni (lamN_by (N := ["_law_script_here", "_law_box", "_law_turn", "_law_some", "_law_others", "_law_one", "_law_two", "_law_text", "_law_edit_here", "_law_bad", "_law_a", "_law_b", "_law_c", "_law_d", "_law_e", "_law_asks", "_law_dues", "_law_k", "_law_ask"]) (sc := defScope s_law) (by decide +kernel)).free rfl rfl) rfl (.cons (pe_lam1 TB rfl hmem huni (lamN_by (N := ["_law_script_here", "_law_box", "_law_turn", "_law_some", "_law_others", "_law_one", "_law_two", "_law_text", "_law_edit_here", "_law_bad", "_law_a", "_law_b", "_law_c", "_law_d", "_law_e", "_law_asks", "_law_dues", "_law_k", "_law_ask"]) (sc := defScope s_law) (by decide +kernel)).free rfl rfl) rfl (.cons (pe_lam1 TB rfl hmem huni (lamN_by (N := ["_law_script_here", "_law_box", "_law_turn", "_law_some", "_law_others", "_law_one", "_law_two", "_law_text", "_law_edit_here", "_law_bad", "_law_a", "_law_b", "_law_c", "_law_d", "_law_e", "_law_asks", "_law_dues", "_law_k", "_law_ask"]) (sc := defScope s_law) (by decide +kernel)).free rfl rfl) rfl .nil))) (.cons (pe_lam0 TB rfl hmem huni (lamN_by (N := ["_law_script_here", "_law_box", "_law_turn", "_law_some", "_law_others", "_law_one", "_law_two", "_law_text", "_law_edit_here", "_law_bad", "_law_a", "_law_b", "_law_c", "_law_d", "_law_e", "_law_asks", "_law_dues", "_law_k", "_law_ask"]) (sc := defScope s_law) (by decide +kernel)).free rfl rfl) rfl .nil) sc_law.nd (dss_cons (ds_set 16 (DO.de (do_lst (da_cons (de_tup (da_cons de_str (da_cons de_int da_nil))) (da_cons (de_tup (da_cons de_str (da_cons de_int da_nil))) (da_cons (de_tup (da_cons de_str (da_cons de_int da_nil))) (da_cons (de_tup (da_cons de_str (da_cons de_int da_nil))) da_nil)))))) sc_law.nd)
    (dss_one (ds_if (DW.t (dw_or (dt_cmp (op_neX (u64 hr)) (od_ne rfl) (DO.de (do_refs 15 18 (k := 5) (ls := la_law_0) [("_law_ask", 18)] rfl hcl T.ref (.cons ⟨rfl, (lamN_by (N := ["_law_script_here", "_law_box", "_law_turn", "_law_some", "_law_others", "_law_one", "_law_two", "_law_text", "_law_edit_here", "_law_bad", "_law_a", "_law_b", "_law_c", "_law_d", "_law_e", "_law_asks", "_law_dues", "_law_k", "_law_ask"]) (sc := defScope s_law) (by decide +kernel)), (.non rfl (fun _ _ _ _ _ => rfl)), fun A outer s H E f c' hr => (de_make rfl (q_ini_Script T) (hr.mono (by decide)) (passes_pl (takes_of rfl rfl rfl rfl) (fun _ _ _ _ h => h)) (da_cons (de_var 10) (da_cons (de_var 11) (da_cons (de_var 12) (da_cons (de_var 13) (da_cons (de_var 14) da_nil))))))⟩ (.cons ⟨rfl, (lamN_by (N := ["_law_script_here", "_law_box", "_law_turn", "_law_some", "_law_others", "_law_one", "_law_two", "_law_text", "_law_edit_here", "_law_bad", "_law_a", "_law_b", "_law_c", "_law_d", "_law_e", "_law_asks", "_law_dues", "_law_k", "_law_ask"]) (sc := defScope s_law) (by decide +kernel)), (.dfl "_law_x" rfl (List.cons_ne_nil _ _) (fun _ _ _ _ _ _ => ⟨_, rfl, fun _ => rfl⟩)), fun A outer s H E f c' hr => (de_make rfl (q_ini_Script T) (hr.mono (by decide)) (passes_pl (takes_of rfl rfl rfl rfl) (fun _ _ _ _ h => h)) (da_cons (de_var 10) (da_cons (de_var 9) (da_cons (de_var 12) (da_cons (de_var 9) da_nil)))))⟩ (.cons ⟨rfl, (lamN_by (N := ["_law_script_here", "_law_box", "_law_turn", "_law_some", "_law_others", "_law_one", "_law_two", "_law_text", "_law_edit_here", "_law_bad", "_law_a", "_law_b", "_law_c", "_law_d", "_law_e", "_law_asks", "_law_dues", "_law_k", "_law_ask"]) (sc := defScope s_law) (by decide +kernel)), (.dfl "_law_y" rfl (List.cons_ne_nil _ _) (fun _ _ _ _ _ _ => ⟨_, rfl, fun _ => rfl⟩)), fun A outer s H E f c' hr => (de_make rfl (q_ini_Script T) (hr.mono (by decide)) (passes_pl (takes_of rfl rfl rfl rfl) (fun _ _ _ _ h => h)) (da_cons (de_var 9) da_nil))⟩ (.cons ⟨rfl, (lamN_by (N := ["_law_script_here", "_law_box", "_law_turn", "_law_some", "_law_others", "_law_one", "_law_two", "_law_text", "_law_edit_here", "_law_bad", "_law_a", "_law_b", "_law_c", "_law_d", "_law_e", "_law_asks", "_law_dues", "_law_k", "_law_ask"]) (sc := defScope s_law) (by decide +kernel)), (.non rfl (fun _ _ _ _ _ => rfl)), fun A outer s H E f c' hr => (de_make rfl (q_ini_Script T) (hr.mono (by decide)) (passes_pl (takes_of rfl rfl rfl rfl) (fun _ _ _ _ h => h)) (da_cons (de_var 10) (da_cons (de_var 11) (da_cons (de_var 12) (da_cons (de_var 13) (da_cons (de_var 14) (da_cons (de_var 9) da_nil)))))))⟩ .nil)))) (hr.mono (by decide)) rfl sc_law.nd (blkOk_by (own := [("_law_ask", 18)]) (N := ["_law_script_here", "_law_box", "_law_turn", "_law_some", "_law_others", "_law_one", "_law_two", "_law_text", "_law_edit_here", "_law_bad", "_law_a", "_law_b", "_law_c", "_law_d", "_law_e", "_law_asks", "_law_dues", "_law_k", "_law_ask"]) (sc := defScope s_law) (by decide +kernel)) rfl (.inl rfl) rfl (by decide) (fun _ _ _ _ _ => rfl) (fun _ _ => rfl) (fun _ _ => rfl))) (de_var 16)) (dw_or1 (dt_not (dt_val (de_call rfl (c_L_same T 8) (hr.mono (by decide)) px (da_cons (de_meth0 rfl (q_mth_Script_edits T) (hr.mono (by decide)) px (de_make rfl (q_ini_Script T) (hr.mono (by decide)) px (da_cons (de_var 10) (da_cons (de_var 11) (da_cons (de_var 12) (da_cons (de_var 13) da_nil)))))) (da_cons (DO.de (do_lst (da_cons (de_var 10) (da_cons (de_var 11) (da_cons (de_var 12) (da_cons (de_var 13) da_nil)))))) da_nil)))))))) (dss_one (ds_ret de_bl)) dss_nil))))))))))))))))))
    (dss_one (ds_ret (de_and (de_cmp (op_eqX (u64 hr)) (od_eq rfl) (de_cst T.cs_Script_MOST) de_int) (de_one (de_call rfl (c_L_same T 8) (hr.mono (by decide)) px (da_cons (DO.de (do_lst (da_cons (de_meth0 rfl (q_mth_Script_edits T) (hr.mono (by decide)) px (de_make0 rfl (q_ini_Script T) (hr.mono (by decide)) px)) (da_cons (de_lenI rfl (q_mth_Script___len__ T) (hr.mono (by decide)) px T.n_len (de_make0 rfl (q_ini_Script T) (hr.mono (by decide)) px)) da_nil)))) (da_cons (DO.de (do_lst (da_cons (DO.de (do_lst da_nil)) (da_cons de_int da_nil)))) da_nil))))))))
end
theorem all_mk {l : PySem.W.OpenLaw} {w : World} {K : Fr} {h : Heap} {mg : Str → Option Value} {fa : Addr} (hl : l.prog = PySem.Challenge.pw_countedplace_k11_scripts_made) (X : K.In h) (G : h.Ns mainGlobals mg) (hfa : mg "law" = some (.ref fa)) (S : Says tell w h K) :
    LamX.LawAtS l w K (L2N.CX l.prog w) 10 63 "_law_script_here" mg fa h := by
  obtain ⟨fd0, F0⟩ := S.f 0 (x := a0) rfl rfl
  obtain ⟨fd1, F1⟩ := S.f 1 (x := a1) rfl rfl
  obtain ⟨fd2, F2⟩ := S.f 2 (x := a2) rfl rfl
  obtain ⟨fd3, F3⟩ := S.f 3 (x := a3) rfl rfl
  obtain ⟨fd4, F4⟩ := S.f 4 (x := a4) rfl rfl
  obtain ⟨fd5, F5⟩ := S.f 5 (x := a5) rfl rfl
  obtain ⟨fd6, F6⟩ := S.f 6 (x := a6) rfl rfl
  obtain ⟨ocR, odR, kVR, dcR, pmR, anR, cdR, ctR, slR, eR, lR, cR⟩ := F6.ex
  subst eR
  obtain ⟨fd7, F7⟩ := S.f 7 (x := a7) rfl rfl
  obtain ⟨tk9, hk9⟩ := isVal_ok (S.q 88 (q := c88) rfl)
  obtain ⟨fd8, F8⟩ := S.f 8 (x := a8) rfl rfl
  obtain ⟨fd9, F9⟩ := S.f 9 (x := a9) rfl rfl
  obtain ⟨fd10, F10⟩ := S.f 10 (x := a10) rfl rfl
  obtain ⟨fd11, F11⟩ := S.f 11 (x := a11) rfl rfl
  obtain ⟨fd12, F12⟩ := S.f 12 (x := a12) rfl rfl
  obtain ⟨fd13, F13⟩ := S.f 13 (x := a13) rfl rfl
  obtain ⟨fd14, F14⟩ := S.f 14 (x := a14) rfl rfl
  obtain ⟨fd15, F15⟩ := S.f 15 (x := a15) rfl rfl
  obtain ⟨fd16, F16⟩ := S.f 16 (x := a16) rfl rfl
  obtain ⟨fd17, F17⟩ := S.f 17 (x := a17) rfl rfl
  obtain ⟨fd18, F18⟩ := S.f 18 (x := a18) rfl rfl
  obtain ⟨fd19, F19⟩ := S.f 19 (x := a19) rfl rfl
  obtain ⟨fd20, F20⟩ := S.f 20 (x := a20) rfl rfl
  obtain ⟨fd21, F21⟩ := S.f 21 (x := a21) rfl rfl
  obtain ⟨fd22, F22⟩ := S.f 22 (x := a22) rfl rfl
  obtain ⟨fd23, F23⟩ := S.f 23 (x := a23) rfl rfl
  obtain ⟨lt0, lh0, lo0, lg0⟩ := S.lamt 0 (x := "law") rfl
  have e := hfa.symm.trans (PySem.W.mg_of X G (S.q 137 (q := c137) rfl))
  cases e
  rw [hl]
  refine ⟨fd23, [(lamC K "law", lamP K "law")], spLaw K [(lamP K "law", ("law" ++ ".<locals>." ++ "<lambda>"))], all1 (lg0), all1 (lo0), all1 (PySem.W.codeHd_of_K X lh0), fun s v => by obtain ⟨_, _, _, _, _, _, _, _, _, e, _, _⟩ := F23.ex; rw [e]; exact .of_eq rfl, fun H a ns hl _ hH hS => ⟨a, ns, rfl, hS, hl, tabs_start (all1 (hH _ (.head _))), fun _ => rfl⟩, fun base _ _ hTB => ?_⟩
  have T : Top PySem.Challenge.pw_countedplace_k11_scripts_made w K mg base [(lamP K "law", ("law" ++ ".<locals>." ++ "<lambda>"))] := ⟨PySem.W.mg_none_of X G (S.q 0 (q := c0) rfl), PySem.W.mg_none_of X G (S.q 1 (q := c1) rfl), PySem.W.mg_none_of X G (S.q 2 (q := c2) rfl), PySem.W.mg_none_of X G (S.q 3 (q := c3) rfl), PySem.W.mg_none_of X G (S.q 4 (q := c4) rfl), PySem.W.mg_none_of X G (S.q 5 (q := c5) rfl), PySem.W.mg_none_of X G (S.q 6 (q := c6) rfl), PySem.W.mg_none_of X G (S.q 7 (q := c7) rfl), PySem.W.mg_none_of X G (S.q 8 (q := c8) rfl), PySem.W.mg_none_of X G (S.q 9 (q := c9) rfl), PySem.W.mg_none_of X G (S.q 10 (q := c10) rfl), PySem.W.mg_none_of X G (S.q 11 (q := c11) rfl), glb_tupB (X := X) G (S.q 12 (q := c12) rfl) (S.q 13 (q := c13) rfl) fun _ _ => (.cons (.str _) (.cons (.str _) .nil)), glb_tupB (X := X) G (S.q 14 (q := c14) rfl) (S.q 15 (q := c15) rfl) fun _ _ => (.cons (.int _) (.cons (.int _) .nil)), ⟨(He.ga K "Script"), (He.ma K (He.ga K "Script") "__repr__"), _, (PySem.W.mg_of X G (S.q 16 (q := c16) rfl)), ⟨(S.q 17 (q := c17) rfl), (S.q 18 (q := c18) rfl), (S.q 19 (q := c19) rfl), (S.q 20 (q := c20) rfl)⟩, ⟨(S.q 21 (q := c21) rfl), (S.q 22 (q := c22) rfl), F0.kp⟩, F0, (F0.binds (ps := ["self"]) fun _ _ _ _ _ _ us hl => match us, hl with | [_], _ => rfl)⟩, ⟨(He.ga K "Script"), (He.ma K (He.ga K "Script") "__len__"), _, (PySem.W.mg_of X G (S.q 16 (q := c16) rfl)), ⟨(S.q 17 (q := c17) rfl), (S.q 18 (q := c18) rfl), (S.q 19 (q := c19) rfl), (S.q 20 (q := c20) rfl)⟩, ⟨(S.q 23 (q := c23) rfl), (S.q 24 (q := c24) rfl), F1.kp⟩, F1, (F1.binds (ps := ["self"]) fun _ _ _ _ _ _ us hl => match us, hl with | [_], _ => rfl)⟩, ⟨(He.ga K "Script"), (He.ma K (He.ga K "Script") "edits"), _, (PySem.W.mg_of X G (S.q 16 (q := c16) rfl)), ⟨(S.q 17 (q := c17) rfl), (S.q 18 (q := c18) rfl), (S.q 19 (q := c19) rfl), (S.q 20 (q := c20) rfl)⟩, ⟨(S.q 25 (q := c25) rfl), (S.q 26 (q := c26) rfl), F2.kp⟩, F2, (F2.binds (ps := ["self"]) fun _ _ _ _ _ _ us hl => match us, hl with | [_], _ => rfl)⟩, ⟨(He.ga K "Script"), (He.ma K (He.ga K "Script") "__contains__"), _, (PySem.W.mg_of X G (S.q 16 (q := c16) rfl)), ⟨(S.q 17 (q := c17) rfl), (S.q 18 (q := c18) rfl), (S.q 19 (q := c19) rfl), (S.q 20 (q := c20) rfl)⟩, ⟨(S.q 27 (q := c27) rfl), (S.q 28 (q := c28) rfl), F3.kp⟩, F3, (F3.binds (ps := ["self", "edit"]) fun _ _ _ _ _ _ us hl => match us, hl with | [_, _], _ => rfl)⟩, ⟨(He.ga K "Script"), (He.ma K (He.ga K "Script") "__eq__"), _, (PySem.W.mg_of X G (S.q 16 (q := c16) rfl)), (S.q 29 (q := c29) rfl), (S.q 30 (q := c30) rfl), (S.q 31 (q := c31) rfl), (S.q 32 (q := c32) rfl), F4, (F4.binds (ps := ["self", "other"]) fun _ _ _ _ _ _ us hl => match us, hl with | [_, _], _ => rfl)⟩, ⟨(He.ga K "Script"), (He.ma K (He.ga K "Script") "__eq__"), _, (PySem.W.mg_of X G (S.q 16 (q := c16) rfl)), (S.q 33 (q := c33) rfl), (S.q 31 (q := c31) rfl), (S.q 32 (q := c32) rfl), F4, (F4.binds (ps := ["self", "other"]) fun _ _ _ _ _ _ us hl => match us, hl with | [_, _], _ => rfl)⟩, ⟨(He.ga K "Merge"), (He.ga K "Script"), clsOf_eq (PySem.W.mg_of X G (S.q 35 (q := c35) rfl)), clsOf_eq (PySem.W.mg_of X G (S.q 16 (q := c16) rfl)), (S.q 34 (q := c34) rfl)⟩, ⟨(He.ga K "Merge"), (He.ma K (He.ga K "Merge") "__init__"), _, (PySem.W.mg_of X G (S.q 35 (q := c35) rfl)), ⟨(S.q 36 (q := c36) rfl), (S.q 37 (q := c37) rfl), (S.q 38 (q := c38) rfl), (S.q 39 (q := c39) rfl)⟩, F5, (F5.binds (ps := ["self", "one", "other"]) fun _ _ _ _ _ _ us hl => match us, hl with | [_, _, _], _ => rfl)⟩, ⟨(He.ga K "Script"), clsOf_eq (PySem.W.mg_of X G (S.q 16 (q := c16) rfl)), all6 (S.q 40 (q := c40) rfl) (S.q 41 (q := c41) rfl) (S.q 42 (q := c42) rfl) (S.q 43 (q := c43) rfl) (S.q 44 (q := c44) rfl) (S.q 45 (q := c45) rfl)⟩, ⟨(He.ga K "_law_refused"), "_law_ask", "_law_told", "_law_e", _, _, _, _, _, _, _, _, _, _, _, _, _, _, _, _, _, _, _, _, _, _, _, _, _, _, _, _, _, (PySem.W.mg_of X G (S.q 83 (q := c83) rfl)), F6.kp, lR, cR, F6.binds (ps := ["_law_ask"]) fun _ _ _ _ _ _ us hl => match us, hl with | [_], _ => rfl, sc_L_refused, rfl, rfl, rfl, by decide, (.fld (.tup (.cons rfl (PySem.W.mg_of X G (S.q 65 (q := c65) rfl)) rfl (.cons rfl (PySem.W.mg_of X G (S.q 64 (q := c64) rfl)) rfl (.cons rfl (PySem.W.mg_of X G (S.q 63 (q := c63) rfl)) rfl .nil))) (Nat.le_of_ble_eq_true rfl) (Nat.le_of_ble_eq_true rfl)) (by decide) (.fld (.tup (.cons rfl (PySem.W.mg_of X G (S.q 62 (q := c62) rfl)) rfl (.cons rfl (PySem.W.mg_of X G (S.q 61 (q := c61) rfl)) rfl (.cons rfl (PySem.W.mg_of X G (S.q 60 (q := c60) rfl)) rfl .nil))) (Nat.le_of_ble_eq_true rfl) (Nat.le_of_ble_eq_true rfl)) (by decide) (.fld (.tup (.cons rfl (PySem.W.mg_of X G (S.q 59 (q := c59) rfl)) rfl (.cons rfl (PySem.W.mg_of X G (S.q 58 (q := c58) rfl)) rfl .nil)) (Nat.le_of_ble_eq_true rfl) (Nat.le_of_ble_eq_true rfl)) (by decide) (.fld (.tup (.cons rfl (PySem.W.mg_of X G (S.q 57 (q := c57) rfl)) rfl (.cons rfl (PySem.W.mg_of X G (S.q 56 (q := c56) rfl)) rfl .nil)) (Nat.le_of_ble_eq_true rfl) (Nat.le_of_ble_eq_true rfl)) (by decide) (.fld (.tup (.cons rfl (PySem.W.mg_of X G (S.q 55 (q := c55) rfl)) rfl (.cons rfl (PySem.W.mg_of X G (S.q 54 (q := c54) rfl)) rfl (.cons rfl (PySem.W.mg_of X G (S.q 53 (q := c53) rfl)) rfl (.cons rfl (PySem.W.mg_of X G (S.q 52 (q := c52) rfl)) rfl (.cons rfl (PySem.W.mg_of X G (S.q 51 (q := c51) rfl)) rfl .nil))))) (Nat.le_of_ble_eq_true rfl) (Nat.le_of_ble_eq_true rfl)) (by decide) (.fld (.tup (.cons rfl (PySem.W.mg_of X G (S.q 50 (q := c50) rfl)) rfl (.cons rfl (PySem.W.mg_of X G (S.q 49 (q := c49) rfl)) rfl .nil)) (Nat.le_of_ble_eq_true rfl) (Nat.le_of_ble_eq_true rfl)) (by decide) (.fld (.one rfl (PySem.W.mg_of X G (S.q 48 (q := c48) rfl)) rfl) (by decide) (.fld (.one rfl (PySem.W.mg_of X G (S.q 47 (q := c47) rfl)) rfl) (by decide) (.non (.one rfl (PySem.W.mg_of X G (S.q 46 (q := c46) rfl)) rfl) .nil))))))))), (tbl_cons ⟨(He.ga K "InvalidEdit"), clsOf_eq (PySem.W.mg_of X G (S.q 62 (q := c62) rfl)), ⟨⟨(S.q 75 (q := c75) rfl), (S.q 76 (q := c76) rfl), (S.q 77 (q := c77) rfl), (S.q 78 (q := c78) rfl)⟩, (S.q 79 (q := c79) rfl), fun _ => (S.q 80 (q := c80) rfl)⟩, (.inr ⟨(S.q 81 (q := c81) rfl), (.inl ⟨(S.q 82 (q := c82) rfl), rfl⟩)⟩)⟩ (tbl_cons ⟨(He.ga K "TooLong"), clsOf_eq (PySem.W.mg_of X G (S.q 59 (q := c59) rfl)), ⟨⟨(S.q 66 (q := c66) rfl), (S.q 67 (q := c67) rfl), (S.q 68 (q := c68) rfl), (S.q 69 (q := c69) rfl)⟩, (S.q 70 (q := c70) rfl), fun _ => (S.q 71 (q := c71) rfl)⟩, (.inr ⟨(S.q 72 (q := c72) rfl), (.inr ⟨(S.q 73 (q := c73) rfl), (.inl ⟨(S.q 74 (q := c74) rfl), rfl⟩)⟩)⟩)⟩ tbl_nil))⟩, ⟨(He.ga K "Script"), (He.ma K (He.ga K "Script") "__init__"), _, (PySem.W.mg_of X G (S.q 16 (q := c16) rfl)), ⟨(S.q 84 (q := c84) rfl), (S.q 85 (q := c85) rfl), (S.q 86 (q := c86) rfl), (S.q 87 (q := c87) rfl)⟩, F7⟩, ⟨(He.ga K "Script"), .type "type", .int 4, _, (PySem.W.mg_of X G (S.q 16 (q := c16) rfl)), ⟨(S.q 89 (q := c89) rfl), (S.q 90 (q := c90) rfl)⟩, ⟨hk9, ⟨_, rfl⟩⟩, fun _ _ => .int 4⟩, ⟨(He.ga K "Merge"), (PySem.W.mg_of X G (S.q 35 (q := c35) rfl)), ⟨(S.q 91 (q := c91) rfl), (S.q 92 (q := c92) rfl), (S.q 93 (q := c93) rfl), (S.q 94 (q := c94) rfl)⟩, (S.q 95 (q := c95) rfl)⟩, ⟨(He.ga K "Merge"), (PySem.W.mg_of X G (S.q 35 (q := c35) rfl)), ⟨(S.q 91 (q := c91) rfl), (S.q 92 (q := c92) rfl), (S.q 93 (q := c93) rfl), (S.q 94 (q := c94) rfl)⟩, (S.q 96 (q := c96) rfl)⟩, ⟨(He.ga K "Script"), (PySem.W.mg_of X G (S.q 16 (q := c16) rfl)), ⟨(S.q 17 (q := c17) rfl), (S.q 18 (q := c18) rfl), (S.q 19 (q := c19) rfl), (S.q 20 (q := c20) rfl)⟩, (S.q 97 (q := c97) rfl)⟩, ⟨(He.ga K "Script"), (PySem.W.mg_of X G (S.q 16 (q := c16) rfl)), (tbB_cons ⟨(He.ga K "Script"), clsOf_eq (PySem.W.mg_of X G (S.q 16 (q := c16) rfl)), ⟨⟨(S.q 17 (q := c17) rfl), (S.q 18 (q := c18) rfl), (S.q 19 (q := c19) rfl), (S.q 20 (q := c20) rfl)⟩, (S.q 104 (q := c104) rfl), (S.q 100 (q := c100) rfl), (S.q 101 (q := c101) rfl), (S.q 29 (q := c29) rfl), kit_self⟩, (S.q 103 (q := c103) rfl)⟩ (tbB_cons ⟨(He.ga K "Merge"), clsOf_eq (PySem.W.mg_of X G (S.q 35 (q := c35) rfl)), ⟨⟨(S.q 91 (q := c91) rfl), (S.q 92 (q := c92) rfl), (S.q 93 (q := c93) rfl), (S.q 94 (q := c94) rfl)⟩, (S.q 99 (q := c99) rfl), (S.q 100 (q := c100) rfl), (S.q 101 (q := c101) rfl), (S.q 102 (q := c102) rfl), kit_self⟩, (S.q 98 (q := c98) rfl)⟩ tbB_nil)), all6 (S.q 105 (q := c105) rfl) (S.q 106 (q := c106) rfl) (S.q 107 (q := c107) rfl) (S.q 108 (q := c108) rfl) (S.q 109 (q := c109) rfl) (S.q 110 (q := c110) rfl)⟩, ⟨(He.ga K "InvalidEdit"), (He.ma K (He.ga K "InvalidEdit") "__init__"), _, (PySem.W.mg_of X G (S.q 62 (q := c62) rfl)), ⟨oexGB_ok (S.q 111 (q := c111) rfl), (S.q 112 (q := c112) rfl), (S.q 77 (q := c77) rfl), (S.q 113 (q := c113) rfl), (S.q 114 (q := c114) rfl)⟩, (S.q 115 (q := c115) rfl), (S.q 116 (q := c116) rfl), F8, (F8.binds (ps := ["self", "at"]) fun _ _ _ _ _ _ us hl => match us, hl with | [_, _], _ => rfl), (S.q 80 (q := c80) rfl), (S.q 79 (q := c79) rfl)⟩, ⟨(He.ga K "TooLong"), (He.ma K (He.ga K "TooLong") "__init__"), _, (PySem.W.mg_of X G (S.q 59 (q := c59) rfl)), ⟨oexGB_ok (S.q 117 (q := c117) rfl), (S.q 118 (q := c118) rfl), (S.q 68 (q := c68) rfl), (S.q 119 (q := c119) rfl), (S.q 120 (q := c120) rfl)⟩, (S.q 121 (q := c121) rfl), (S.q 122 (q := c122) rfl), F9, (F9.binds (ps := ["self", "most"]) fun _ _ _ _ _ _ us hl => match us, hl with | [_, _], _ => rfl), (S.q 71 (q := c71) rfl), (S.q 70 (q := c70) rfl)⟩, ⟨(He.ga K "Script"), (He.ma K (He.ga K "Script") "__add__"), _, (PySem.W.mg_of X G (S.q 16 (q := c16) rfl)), (S.q 33 (q := c33) rfl), (S.q 123 (q := c123) rfl), (S.q 124 (q := c124) rfl), F10, (F10.binds (ps := ["self", "other"]) fun _ _ _ _ _ _ us hl => match us, hl with | [_, _], _ => rfl)⟩, ⟨_, _, F11, (PySem.W.mg_of X G (S.q 125 (q := c125) rfl)), F11.binds (ps := ["_law_script_here"]) fun _ _ _ _ _ _ us hl => match us, hl with | [_], _ => rfl⟩, ⟨_, _, F12, (PySem.W.mg_of X G (S.q 126 (q := c126) rfl)), F12.binds (ps := ["thing"]) fun _ _ _ _ _ _ us hl => match us, hl with | [_], _ => rfl⟩, ⟨_, _, F13, (PySem.W.mg_of X G (S.q 127 (q := c127) rfl)), F13.binds (ps := ["thing"]) fun _ _ _ _ _ _ us hl => match us, hl with | [_], _ => rfl⟩, ⟨_, _, F14, (PySem.W.mg_of X G (S.q 128 (q := c128) rfl)), F14.binds (ps := ["thing"]) fun _ _ _ _ _ _ us hl => match us, hl with | [_], _ => rfl⟩, ⟨_, _, F15, (PySem.W.mg_of X G (S.q 129 (q := c129) rfl)), F15.binds (ps := ["_law_box", "_law_many"]) fun _ _ _ _ _ _ us hl => match us, hl with | [_, _], _ => rfl⟩, ⟨_, _, F16, (PySem.W.mg_of X G (S.q 130 (q := c130) rfl)), F16.binds (ps := ["_law_box", "_law_things"]) fun _ _ _ _ _ _ us hl => match us, hl with | [_, _], _ => rfl⟩, ⟨_, _, F17, (PySem.W.mg_of X G (S.q 131 (q := c131) rfl)), F17.binds (ps := ["_law_box"]) fun _ _ _ _ _ _ us hl => match us, hl with | [_], _ => rfl⟩, ⟨_, _, F18, (PySem.W.mg_of X G (S.q 132 (q := c132) rfl)), F18.binds (ps := ["_law_box"]) fun _ _ _ _ _ _ us hl => match us, hl with | [_], _ => rfl⟩, ⟨_, _, F19, (PySem.W.mg_of X G (S.q 133 (q := c133) rfl)), F19.binds (ps := ["_law_box", "_law_most"]) fun _ _ _ _ _ _ us hl => match us, hl with | [_, _], _ => rfl⟩, ⟨_, _, F20, (PySem.W.mg_of X G (S.q 134 (q := c134) rfl)), F20.binds (ps := ["_law_found"]) fun _ _ _ _ _ _ us hl => match us, hl with | [_], _ => rfl⟩, ⟨_, _, F21, (PySem.W.mg_of X G (S.q 135 (q := c135) rfl)), F21.binds (ps := ["_law_found", "_law_due"]) fun _ _ _ _ _ _ us hl => match us, hl with | [_, _], _ => rfl⟩, ⟨_, _, F22, (PySem.W.mg_of X G (S.q 136 (q := c136) rfl)), F22.binds (ps := ["_law_edits_here"]) fun _ _ _ _ _ _ us hl => match us, hl with | [_], _ => rfl⟩, ⟨_, _, F23, (PySem.W.mg_of X G (S.q 137 (q := c137) rfl)), F23.binds (ps := ["_law_script_here"]) fun _ _ _ _ _ _ us hl => match us, hl with | [_], _ => rfl⟩, lamT_mk (PySem.W.mg_of X G (S.q 137 (q := c137) rfl)) (S.q 137 (q := c137) rfl) lt0 (hTB _ (.head _)) (.head _) (all1 (fun _ => rfl))⟩
  obtain ⟨f, fd, F, hm, hk⟩ := ok_law (P := PySem.Challenge.pw_countedplace_k11_scripts_made) (w := w) (base := base) (tb := [(lamP K "law", ("law" ++ ".<locals>." ++ "<lambda>"))]) T
  rw [(PySem.W.mg_of X G (S.q 137 (q := c137) rfl))] at hm
  cases hm
  have e2 := fun_one F F23
  rw [e2] at hk
  rw [hl]
  exact hk
end Z
open PySem PySem.W PySem.Calls PyProof.Rows
set_option maxHeartbeats 0 in
theorem PySem.Challenge.cw_countedplace_k11_scripts_made_holds : PySem.Challenge.rw_countedplace_k11_scripts_made.Holds := by
  w_on; o_law
  refine HandSHeadRun.head_any (q := view (OpenLaw.row PySem.Challenge.rw_countedplace_k11_scripts_made).prog [63]) (H := Z.hk) (ob := Y.obY 6 Z.tell) (M := 20000) (loose := Z.loose) (d := HandSHeadRun.topDef (OpenLaw.row PySem.Challenge.rw_countedplace_k11_scripts_made).prog 63) (kwd := []) Y.obY_eq (by kernel_rfl) (fun s => by kernel_rfl) Z.run (by kernel_rfl) (by kernel_rfl) (by kernel_rfl) (by rfl) (by first | assumption | decide +kernel) (by decide +kernel) ⟨rfl, rfl, rfl, rfl, rfl, by decide +kernel⟩ ?hw ?hc
  case hc => exact LamX.walk_ofTsE (l := PySem.Challenge.rw_countedplace_k11_scripts_made) (n := 63) (k := 10) (x := "_law_script_here") (CX := fun w => L2N.CX PySem.Challenge.rw_countedplace_k11_scripts_made.prog w) rfl (by decide) (by kernel_rfl) ⟨rfl, by decide, by decide⟩ (fun w mg fa h ⟨K, KX, S⟩ G hm => ⟨K, KX, Z.all_mk rfl KX G (Y.name_eq (by kernel_rfl) hm) S⟩) (fun _ _ _ _ _ h => Y.cx_false h)
  case hw => w_witness2
