import PyProof.Rows.All
import Wide.All
import OpenK.AllK
import Wide.FinOn
import HandS.ForMost
import HandS.ForExc
import HandS.TupAny
import HandS.Deep
import HandS.StrMore
import HandS.IsInst
import HandS.Zip
import HandS.Style
import HandS.Star
import KE.GoesMore
import KE.KRevSl
import HandS.Property
import HandS.ClsMeth
import HandS.More
import HandS.OwnEq
import HandS.Nested
import KE.KSuper
import KE.RegKSuper
import HandS.NoneIn
import HandS.Codes
import KE.KOpsOwn
import KE.KTupSum
import HandS.Lambda
import HandS.EndTab
import KE.KExcHand
import HandS.ExcInit
import HandS.ExcField
import HandS.Head2
import HandS.HeadEnd
import HandS.HeadWalk
import HandS.HeadHook4
import HandS.TryOnly
import KE.LtSeq
import KE.KDflt
import HandS.FStr
import HandS.StrSplit
import HandS.ForDict
import HandS.Conv
import HandS.Flow
import HandS.MakeKw
import HandS.ExcCtx
import HandS.GenList
import HandS.Finally
import HandS.HotCalls
import HandS.SuiteRaise
import HandS.RaiseFrom
import KE.KExcRaise
import KE.KExcInit
import PyProof.ExcBaseAll.LookupError
import PyProof.ExcBaseAll.IndexError
import PyProof.FString3
import PyProof.Rows.StrIntSpec
import KE.KxField
import HandS.MakeKwOnly
import PyProof.EqAt
import PyProof.NeKinds
import PySem.Challenge.RW_countedplace_k02_rows_in_order
set_option Elab.async false
set_option linter.all false
set_option maxRecDepth 100000
set_option maxHeartbeats 4000000
set_option autoImplicit false
namespace Y
open PySem PySem.Spec PyProof.Rows L2
def kvOf (e : DictEntry) : Option (Str × Str) := match e.key, e.val with
  | .str k _, .str v _ => some (k, v)
  | _, _ => none
abbrev Fr := PySem.W.Frag
/-- a function of the top: where it lies, its two names, its statement, the names of its closure -/
structure FnA where
  ad : Fr → Addr
  nam : Str
  qua : Str
  st : Stmt
  clo : List Str := []
  dfl : Bool := false
abbrev FnO : Type := Option ((Str × Str) × (Arguments × FuncBody × Scope) × (Addr × Addr) × List Str)
def seeF (K : Fr) (a : Addr) : FnO := match K.lookup a with
  | some ⟨_, _, .func d, _⟩ => some ((d.name, d.qualname), (d.params, d.body, d.scope), (d.globals, d.builtins), d.closure.map Prod.fst)
  | _ => none
def FnA.due (x : FnA) : FnO := some ((x.nam, x.qua), (defArgs x.st, .stmts (defBody x.st), defScope x.st), (mainGlobals, builtinsNs), x.clo)
def FnA.ok (K : Fr) (x : FnA) : Bool := match K.lookup (x.ad K) with
  | some ⟨_, _, .func d, _⟩ => PySem.W.codeIn K d.code x.qua && ((x.dfl || decide (d.defaults = .none)) && PySem.W.keepIn K (.ref (x.ad K)))
  | _ => false
/-- two looks that must agree -/
structure Qy where
  α : Type
  dec : DecidableEq α
  l : Fr → α
  r : Fr → α
def Qy.ok (K : Fr) (q : Qy) : Bool := @decide _ (q.dec (q.l K) (q.r K))
theorem Qy.says {K : Fr} {q : Qy} (h : q.ok K = true) : q.l K = q.r K := @of_decide_eq_true _ (q.dec (q.l K) (q.r K)) h
abbrev qy {α : Type} [d : DecidableEq α] (l r : Fr → α) : Qy := ⟨α, d, l, r⟩
abbrev qb (l : Fr → Bool) : Qy := ⟨Bool, inferInstance, l, fun _ => true⟩
/-- what is told of a head -/
structure Tell where
  fns : List FnA
  tab : List He.Tab
  lam : List Str
  chk : List Qy
def lamOk (g : Addr → Option Obj) (K : Fr) (x : Str) : Bool := match PySem.W.tabIn K x with
  | some (c, P) => PySem.W.codeHdIn K c P && (match g P with
    | some o => He.emptyTab o
    | none => false)
  | none => false
abbrev AlY : Type := List FnO × List (Option (List (Option (Str × Int)))) × Bool
def Tell.see (T : Tell) (g : Addr → Option Obj) (K : Fr) : AlY :=
  (T.fns.map fun x => seeF K (x.ad K), T.tab.map fun t => He.dicW K (t.1 K), T.fns.all (FnA.ok K) && (T.chk.all (Qy.ok K) && T.lam.all (lamOk g K)))
def Tell.due (T : Tell) (w : World) : AlY := (T.fns.map FnA.due, T.tab.map fun t => some (He.keysIn w.params t.2), true)
/-- a part of the heap, laid out before it is looked at -/
def frc {α : Type} : Fr → (Fr → α) → α
  | [], k => k []
  | (a, ⟨c, d, t, s⟩) :: r, k => HandSHeadRun.frNat a fun a => frc r fun r => k ((a, ⟨c, d, t, s⟩) :: r)
theorem frc_eq {α : Type} : ∀ (K : Fr) (k : Fr → α), frc K k = k K
  | [], _ => rfl
  | (a, ⟨c, d, t, s⟩) :: r, k => by
    show HandSHeadRun.frNat a (fun a => frc r fun r => k ((a, ⟨c, d, t, s⟩) :: r)) = _
    rw [HandSHeadRun.frNat_eq, frc_eq r]
/-- what an object leads to, as far as a head is asked of it -/
def nextO (o : Obj) : List Addr := match o.data with
  | .dict es _ => es.toList.flatMap fun e => He.refV e.val
  | .func d => He.refV d.code ++ (He.refV d.defaults ++ (He.refV d.kwdefaults ++ d.closure.map Prod.snd))
  | .cls cd => [cd.ns]
  | .fields vs => (match o.cls with
    | .type "code" => []
    | _ => vs.toList.flatMap He.refV)
  | _ => []
def nextA (g : Addr → Option Obj) (a : Addr) : List Addr := match g a with
  | some o => nextO o
  | none => []
def reach (g : Addr → Option Obj) : Nat → List Addr → List Addr
  | 0, _ => []
  | n + 1, as => as.flatMap (nextA g) ++ reach g n (as.flatMap (nextA g))
def parts (g : Addr → Option Obj) (n : Nat) : Fr := He.frT g (mainGlobals :: cStatics :: reach g n [mainGlobals])
structure Says (T : Tell) (w : World) (h : Heap) (K : Fr) : Prop where
  fn : T.fns.map (fun x => seeF K (x.ad K)) = T.fns.map FnA.due
  fo : ∀ x ∈ T.fns, FnA.ok K x = true
  tb : T.tab.map (fun t => He.dicW K (t.1 K)) = T.tab.map fun t => some (He.keysIn w.params t.2)
  ck : ∀ q ∈ T.chk, Qy.ok K q = true
  lm : ∀ x ∈ T.lam, ∃ c P, PySem.W.tabIn K x = some (c, P) ∧ PySem.W.codeHdIn K c P = true ∧ K.lookup P = none ∧ h.get? P = some { cls := .none, data := .fields #[] }
def hookY (n : Nat) (T : Tell) : PySem.W.Hook where
  α := AlY
  obs := fun s => T.see s.heap.get? (parts s.heap.get? n)
  val := fun w => T.due w
  says := fun w h => ∃ K : Fr, K.In h ∧ Says T w h K
  of := fun w s e => by
    refine ⟨parts s.heap.get? n, He.frT_in, ?_⟩
    have e1 := congrArg (fun z : AlY => z.1) e
    have e2 := congrArg (fun z : AlY => z.2.1) e
    have e3 := congrArg (fun z : AlY => z.2.2) e
    have e3 : (T.fns.all (FnA.ok _) && (T.chk.all (Qy.ok _) && T.lam.all (lamOk s.heap.get? (parts s.heap.get? n)))) = true := e3
    obtain ⟨e4, e5⟩ := He.ba e3
    obtain ⟨e6, e7⟩ := He.ba e5
    refine ⟨e1, List.all_eq_true.mp e4, e2, List.all_eq_true.mp e6, fun x hx => ?_⟩
    have h7 := List.all_eq_true.mp e7 x hx
    unfold lamOk at h7
    cases q : PySem.W.tabIn (parts s.heap.get? n) x with
    | none => rw [q] at h7; cases h7
    | some cp =>
      obtain ⟨c, P⟩ := cp
      rw [q] at h7
      obtain ⟨h8, h9⟩ := He.ba h7
      cases q2 : s.heap.get? P with
      | none => rw [q2] at h9; cases h9
      | some o =>
        rw [q2] at h9
        exact ⟨c, P, rfl, h8, He.frT_none q2 h9, by rw [q2, He.emptyTab_eq h9]⟩
  keeps := fun w h h' ⟨K, hK, c⟩ k => ⟨K, PySem.W.Frag.In.keeps hK k, c.fn, c.fo, c.tb, c.ck, fun x hx => by
    obtain ⟨a, P, h1, h2, h3, h4⟩ := c.lm x hx
    exact ⟨a, P, h1, h2, h3, k _ _ h4⟩⟩
/-- the same, off the tree -/
def obY (n : Nat) (T : Tell) (s : PySem.W.SharedT) : AlY := frc (parts (HandSHeadRun.getT s) n) (T.see (HandSHeadRun.getT s))
theorem obY_eq {n : Nat} {T : Tell} (s : PySem.W.SharedT) : obY n T s = (hookY n T).obs s.abs := by
  have e : HandSHeadRun.getT s = s.abs.heap.get? := funext (HandSHeadRun.getT_eq s)
  unfold obY
  rw [frc_eq, e] <;> rfl
def cellV (K : Fr) (cc : Addr) : Addr := match K.lookup cc with
  | some ⟨_, _, .cell (some (.ref d)), _⟩ => d
  | _ => 0
def supA (K : Fr) (f : Addr) : Addr := match K.lookup f with
  | some ⟨_, _, .func d, _⟩ => (match d.closure with
    | [(_, cc)] => cellV K cc
    | _ => 0)
  | _ => 0
def supOk (P : Program) (K : Fr) (f : Addr) : Bool := match K.lookup f with
  | some ⟨_, _, .func d, _⟩ => (match d.closure with
    | [(_, cc)] => (match K.lookup cc with
      | some ⟨_, _, .cell (some (.ref _)), _⟩ => (match d.code with
        | .ref ca => (match K.lookup ca with
          | some ⟨_, _, .fields vs, _⟩ => (match (vs[2]? : Option Value) with
            | some (.str fi _) => (P.main.file : Str) == fi
            | _ => false)
          | _ => false)
        | _ => false)
      | _ => false)
    | _ => false)
  | _ => false
def isGet (K : Fr) (C : Addr) (m : Str) (p : Addr) (b : String) : Bool := match PySem.W.findCls K (.ref C) (.type "type") m with
  | some (.get (.builtin z) (.ref q) .none (.ref D)) => decide (z = b) && (decide (q = p) && decide (D = C))
  | _ => false
def isVal (K : Fr) (C : Addr) (m : Str) (i : Int) : Bool := match PySem.W.findCls K (.ref C) (.type "type") m with
  | some (.val (.int j _)) => decide (j = i)
  | _ => false
/-- a literal, and the value that stands for it -/
def relB : V → Value → Bool
  | .str x, .str y _ => x == y
  | .int x, .int y _ => x == y
  | .non, .none => true
  | _, _ => false
def relsB : List V → List Value → Bool
  | [], [] => true
  | v :: vs, u :: us => relB v u && relsB vs us
  | _, _ => false
/-- the defaults of the def at f are dvs, its keyword-only ones hold kws -/
def dflB (K : Fr) (f : Addr) (dvs : List V) (kws : List (Str × V)) : Bool := match K.lookup f with
  | some ⟨_, _, .func d, _⟩ => (match dvs with
    | [] => decide (d.defaults = .none)
    | _ => (match d.defaults with
      | .ref T => (match K.lookup T with
        | some ⟨_, _, .seq its _, _⟩ => relsB dvs its.toList
        | _ => false)
      | _ => false)) && (match kws with
    | [] => true
    | _ => (match d.kwdefaults with
      | .ref D => kws.all fun q => match PySem.W.nsIn K D q.1 with
        | some (some u) => relB q.2 u
        | _ => false
      | _ => false))
  | _ => false
end Y
namespace Y
open PySem PySem.Spec PyProof.Rows L2
end Y
namespace Y
open PySem PySem.Spec PySem.W HandSHeadRun
theorem map3 {α β γ δ : Type} {o : Option α} {f : α → β} {g : α → γ} {h : α → δ} {b : β} {c : γ} {d : δ} (h1 : o.map (fun s => (f s, g s)) = some (b, c)) (h2 : o.map h = some d) : o.map (fun s => (f s, g s, h s)) = some (b, c, d) := by
  cases o with
  | none => cases h1
  | some s =>
    injection h1 with h1
    injection h2 with h2
    injection h1 with h1 h3
    show some (f s, g s, h s) = _
    rw [h1, h3, h2]
def RunL (r : OpenRow) (q : Program) (M : Nat) (loose : List PySem.Str) (w : World) : Prop :=
  ∀ os : OsState, (endF (stepQ (denQ tabQ) r.prog w) M r.prog w os).map (fun s => (looksF r.prog (boot_heap w.params) s.abs, seenQ q loose (importedModules r.prog.main.body) (fun s => xlAt q [] s && recOk r.toRowW.records s) s.abs)) = some (true, openGood q loose)
def RunO (r : OpenRow) (H : Hook) (ob : SharedT → H.α) (M : Nat) (w : World) : Prop :=
  ∀ os : OsState, (endF (stepQ (denQ tabQ) r.prog w) M r.prog w os).map ob = some (H.val w)
theorem runEq_of {r : OpenRow} {q : Program} {H : Hook} {ob : SharedT → H.α} {M : Nat} {loose : List PySem.Str} {w : World} (h1 : RunL r q M loose w) (h2 : RunO r H ob M w) : RunEq r q H ob M loose w := fun os => map3 (h1 os) (h2 os)
def Tell.a (T : Tell) : Tell := ⟨T.fns, T.tab, T.lam, []⟩
def Tell.b (T : Tell) : Tell := ⟨[], [], [], T.chk⟩
theorem obY_cut {n : Nat} {T : Tell} {s : SharedT} {w : World} (h1 : obY n T.a s = T.a.due w) (h2 : obY n T.b s = T.b.due w) : obY n T s = T.due w := by
  unfold obY at h1 h2 ⊢
  rw [frc_eq] at h1 h2 ⊢
  have e1 := congrArg (fun z : AlY => z.1) h1
  have e2 := congrArg (fun z : AlY => z.2.1) h1
  have e3 : (T.fns.all (FnA.ok _) && (true && T.lam.all (lamOk _ _))) = true := congrArg (fun z : AlY => z.2.2) h1
  have e4 : (true && (T.chk.all (Qy.ok _) && true)) = true := congrArg (fun z : AlY => z.2.2) h2
  rw [Bool.true_and] at e3 e4
  rw [Bool.and_true] at e4
  obtain ⟨e5, e6⟩ := He.ba e3
  refine Prod.ext e1 (Prod.ext e2 ?_)
  show (T.fns.all (FnA.ok _) && (T.chk.all (Qy.ok _) && T.lam.all (lamOk _ _))) = true
  rw [e5, e6, e4]; rfl
theorem runO_of {r : OpenRow} {n M : Nat} {T : Tell} {w : World} (h1 : RunO r (hookY n T.a) (obY n T.a) M w) (h2 : RunO r (hookY n T.b) (obY n T.b) M w) : RunO r (hookY n T) (obY n T) M w := fun os => by
  have a := h1 os
  have b := h2 os
  cases q : endF (stepQ (denQ tabQ) r.prog w) M r.prog w os with
  | none => rw [q] at a; cases a
  | some s =>
    rw [q] at a b
    injection a with a
    injection b with b
    exact congrArg some (obY_cut a b)
end Y
namespace Y
open PySem PySem.Spec PySem.W HandSHeadRun
end Y
namespace Z
open PySem PySem.Spec PyProof.Rows L2 Y
def topS (i : Nat) : Stmt := PySem.Challenge.pw_countedplace_k02_rows_in_order.main.body.getD i (.Pass ⟨0, 0, 0, 0⟩)
abbrev s_L_open : Stmt := topS 5
abbrev s_precedes : Stmt := topS 1
abbrev s_following : Stmt := topS 2
abbrev s_rows_to : Stmt := topS 3
abbrev s_L_draw : Stmt := topS 6
abbrev s_L_whole : Stmt := topS 7
abbrev s_L_same : Stmt := topS 8
abbrev s_L_row : Stmt := topS 9
abbrev s_L_longer : Stmt := topS 10
abbrev s_L_all_rows : Stmt := topS 11
abbrev s_law : Stmt := topS 12
abbrev c0 : Qy := qy (fun K => PySem.W.nsIn K mainGlobals "all") (fun K => some none)
abbrev c1 : Qy := qy (fun K => PySem.W.nsIn K mainGlobals "bool") (fun K => some none)
abbrev c2 : Qy := qy (fun K => PySem.W.nsIn K mainGlobals "int") (fun K => some none)
abbrev c3 : Qy := qy (fun K => PySem.W.nsIn K mainGlobals "isinstance") (fun K => some none)
abbrev c4 : Qy := qy (fun K => PySem.W.nsIn K mainGlobals "len") (fun K => some none)
abbrev c5 : Qy := qy (fun K => PySem.W.nsIn K mainGlobals "list") (fun K => some none)
abbrev c6 : Qy := qy (fun K => PySem.W.nsIn K mainGlobals "range") (fun K => some none)
abbrev c7 : Qy := qy (fun K => PySem.W.nsIn K mainGlobals "str") (fun K => some none)
abbrev c8 : Qy := qy (fun K => PySem.W.nsIn K mainGlobals "tuple") (fun K => some none)
abbrev c9 : Qy := qy (fun K => PySem.W.nsIn K mainGlobals "zip") (fun K => some none)
abbrev c10 : Qy := qy (fun K => PySem.W.nsIn K mainGlobals "_law_open") (fun K => some (some (.ref (He.ga K "_law_open"))))
abbrev c11 : Qy := qy (fun K => PySem.W.nsIn K mainGlobals "precedes") (fun K => some (some (.ref (He.ga K "precedes"))))
abbrev c12 : Qy := qy (fun K => PySem.W.nsIn K mainGlobals "following") (fun K => some (some (.ref (He.ga K "following"))))
abbrev c13 : Qy := qb (fun K => dflB K (He.ga K "rows_to") [] [("start", .str "")])
abbrev c14 : Qy := qy (fun K => PySem.W.nsIn K mainGlobals "rows_to") (fun K => some (some (.ref (He.ga K "rows_to"))))
abbrev c15 : Qy := qy (fun K => PySem.W.nsIn K mainGlobals "_law_draw") (fun K => some (some (.ref (He.ga K "_law_draw"))))
abbrev c16 : Qy := qy (fun K => PySem.W.nsIn K mainGlobals "_law_whole") (fun K => some (some (.ref (He.ga K "_law_whole"))))
abbrev c17 : Qy := qy (fun K => PySem.W.nsIn K mainGlobals "_law_same") (fun K => some (some (.ref (He.ga K "_law_same"))))
abbrev c18 : Qy := qy (fun K => PySem.W.nsIn K mainGlobals "_law_row") (fun K => some (some (.ref (He.ga K "_law_row"))))
abbrev c19 : Qy := qy (fun K => PySem.W.nsIn K mainGlobals "_law_longer") (fun K => some (some (.ref (He.ga K "_law_longer"))))
abbrev c20 : Qy := qy (fun K => PySem.W.nsIn K mainGlobals "_law_all_rows") (fun K => some (some (.ref (He.ga K "_law_all_rows"))))
abbrev c21 : Qy := qy (fun K => PySem.W.nsIn K mainGlobals "law") (fun K => some (some (.ref (He.ga K "law"))))
abbrev a0 : FnA := ⟨fun K => (He.ga K "_law_open"), "_law_open", "_law_open", s_L_open, [], false⟩
abbrev a1 : FnA := ⟨fun K => (He.ga K "precedes"), "precedes", "precedes", s_precedes, [], false⟩
abbrev a2 : FnA := ⟨fun K => (He.ga K "following"), "following", "following", s_following, [], false⟩
abbrev a3 : FnA := ⟨fun K => (He.ga K "rows_to"), "rows_to", "rows_to", s_rows_to, [], true⟩
abbrev a4 : FnA := ⟨fun K => (He.ga K "_law_draw"), "_law_draw", "_law_draw", s_L_draw, [], false⟩
abbrev a5 : FnA := ⟨fun K => (He.ga K "_law_whole"), "_law_whole", "_law_whole", s_L_whole, [], false⟩
abbrev a6 : FnA := ⟨fun K => (He.ga K "_law_same"), "_law_same", "_law_same", s_L_same, [], false⟩
abbrev a7 : FnA := ⟨fun K => (He.ga K "_law_row"), "_law_row", "_law_row", s_L_row, [], false⟩
abbrev a8 : FnA := ⟨fun K => (He.ga K "_law_longer"), "_law_longer", "_law_longer", s_L_longer, [], false⟩
abbrev a9 : FnA := ⟨fun K => (He.ga K "_law_all_rows"), "_law_all_rows", "_law_all_rows", s_L_all_rows, [], false⟩
abbrev a10 : FnA := ⟨fun K => (He.ga K "law"), "law", "law", s_law, [], false⟩
def tell : Tell := ⟨[a0, a1, a2, a3, a4, a5, a6, a7, a8, a9, a10], [], [], [c0, c1, c2, c3, c4, c5, c6, c7, c8, c9, c10, c11, c12, c13, c14, c15, c16, c17, c18, c19, c20, c21]⟩
def loose : List Str := (["precedes", "following", "rows_to", "_law_open", "_law_draw", "_law_whole", "_law_same", "_law_row", "_law_longer", "_law_all_rows"] : List Str)
abbrev hk : PySem.W.Hook := hookY 6 tell
abbrev runP (w : World) : Prop := HandSHeadRun.RunEq (PySem.W.OpenLaw.row PySem.Challenge.rw_countedplace_k02_rows_in_order) (PySem.W.view (PySem.W.OpenLaw.row PySem.Challenge.rw_countedplace_k02_rows_in_order).prog [12]) hk (obY 6 tell) 20000 loose w
theorem runL0 (w : World) : RunL (PySem.W.OpenLaw.row PySem.Challenge.rw_countedplace_k02_rows_in_order) (PySem.W.view (PySem.W.OpenLaw.row PySem.Challenge.rw_countedplace_k02_rows_in_order).prog [12]) 20000 loose (w.withFollow "special-get-raises" false) := fun os => by kernel_rfl
theorem runA0 (w : World) : RunO (PySem.W.OpenLaw.row PySem.Challenge.rw_countedplace_k02_rows_in_order) (hookY 6 tell.a) (obY 6 tell.a) 20000 (w.withFollow "special-get-raises" false) := fun os => by kernel_rfl
theorem runB0 (w : World) : RunO (PySem.W.OpenLaw.row PySem.Challenge.rw_countedplace_k02_rows_in_order) (hookY 6 tell.b) (obY 6 tell.b) 20000 (w.withFollow "special-get-raises" false) := fun os => by kernel_rfl
theorem run0 (w : World) : runP (w.withFollow "special-get-raises" false) := runEq_of (runL0 w) (runO_of (runA0 w) (runB0 w))
theorem runL1 (w : World) : RunL (PySem.W.OpenLaw.row PySem.Challenge.rw_countedplace_k02_rows_in_order) (PySem.W.view (PySem.W.OpenLaw.row PySem.Challenge.rw_countedplace_k02_rows_in_order).prog [12]) 20000 loose (w.withFollow "special-get-raises" true) := fun os => by kernel_rfl
theorem runA1 (w : World) : RunO (PySem.W.OpenLaw.row PySem.Challenge.rw_countedplace_k02_rows_in_order) (hookY 6 tell.a) (obY 6 tell.a) 20000 (w.withFollow "special-get-raises" true) := fun os => by kernel_rfl
theorem runB1 (w : World) : RunO (PySem.W.OpenLaw.row PySem.Challenge.rw_countedplace_k02_rows_in_order) (hookY 6 tell.b) (obY 6 tell.b) 20000 (w.withFollow "special-get-raises" true) := fun os => by kernel_rfl
theorem run1 (w : World) : runP (w.withFollow "special-get-raises" true) := runEq_of (runL1 w) (runO_of (runA1 w) (runB1 w))
theorem run : ∀ w : World, runP w := PySem.W.byRow2 "special-get-raises" run0 run1
end Z
namespace Y
open PySem PySem.Spec PyProof.Rows L2

inductive D where
  | non | bl (b : Bool) | int (i : Int) | str (s : Str) | lst (ds : List D) | tup (ds : List D) | box | obj (c : Str) (fs : List (Str × D)) | dct (kvs : List (Key × D)) | cel (i : Nat)
  deriving Inhabited
/-- the classes by name, the tables of code objects -/
structure CT where
  cl : Str → Option Addr
  tb : List (Addr × Str)
instance : CoeFun CT (fun _ => Str → Option Addr) := ⟨CT.cl⟩
/-- what is frozen, and where the cells lie -/
structure FH where
  fz : Hp
  ad : Nat → Option Addr
instance : CoeFun FH (fun _ => Addr → Option HO) := ⟨FH.fz⟩
instance : Coe FH Hp := ⟨FH.fz⟩
abbrev FH.upd (F : FH) (p : Addr) (o : HO) : FH := ⟨L2.upd F.fz p o, F.ad⟩
/-- neither frozen nor a cell -/
def FH.free (F : FH) (p : Addr) : Prop := F.fz p = none ∧ ∀ i, F.ad i ≠ some p
theorem FH.free.upd {F : FH} {p q : Addr} {o : HO} (h : F.free p) (n : p ≠ q) : (F.upd q o).free p := ⟨by show L2.upd F.fz q o p = none; rw [upd_ne n]; exact h.1, h.2⟩
structure FSame (F F' : FH) : Prop where
  fz : Same F.fz F'.fz
  ad : ∀ i a, F.ad i = some a → F'.ad i = some a
theorem FSame.refl (F : FH) : FSame F F := ⟨Same.refl _, fun _ _ h => h⟩
theorem FSame.trans {F F' F'' : FH} (a : FSame F F') (b : FSame F' F'') : FSame F F'' := ⟨a.fz.trans b.fz, fun i x h => b.ad i x (a.ad i x h)⟩
theorem FSame.upd {F : FH} {p : Addr} {o : HO} (n : F.fz p = none) : FSame F (F.upd p o) := ⟨fun a u h => by show L2.upd F.fz p o a = some u; rw [upd_ne (ne_of_none h n)]; exact h, fun _ _ h => h⟩
/-- the box; the object that an __init__ makes, its own dict; the cells of the frame that makes lambdas -/
abbrev BQ : Type := Addr × Addr × Addr × List (Str × Addr)
structure G where
  K : PySem.W.Frag
  cls : CT
  bq : BQ
/-- the box that is drawn from -/
abbrev G.bx (g : G) : Addr := g.bq.1
/-- the object that an __init__ makes, and its own dict -/
abbrev G.me (g : G) : Addr := g.bq.2.1
abbrev G.md (g : G) : Addr := g.bq.2.2.1
abbrev G.cl (g : G) : List (Str × Addr) := g.bq.2.2.2
mutual
inductive DR (g : G) (F : FH) : V → D → Prop
  | non : DR g F .non .non
  | bl (b : Bool) : DR g F (.bl b) (.bl b)
  | int (i : Int) : DR g F (.int i) (.int i)
  | str (s : Str) : DR g F (.str s) (.str s)
  | lst {a : Addr} {xs : List V} {ds : List D} : F a = some (.lst xs) → DRs g F xs ds → DR g F (.ref a) (.lst ds)
  | tup {a : Addr} {xs : List V} {ds : List D} : SqT g.K F a xs → DRs g F xs ds → DR g F (.ref a) (.tup ds)
  | box : DR g F (.ref g.bx) .box
  | obj {a C dx : Addr} {c : Str} {fs : List (Str × V)} {ds : List (Str × D)} : F a = some (.ins C dx fs) → F dx = some (.own a) → g.cls c = some C → DRf g F fs ds → DR g F (.ref a) (.obj c ds)
  | cel {i : Nat} {a : Addr} : F.ad i = some a → DR g F (.ref a) (.cel i)
  | dct {a : Addr} {xs : List (Key × V)} {ds : List (Key × D)} : F a = some (.dK xs) → DRk g F xs ds → DR g F (.ref a) (.dct ds)
inductive DRs (g : G) (F : FH) : List V → List D → Prop
  | nil : DRs g F [] []
  | cons {v : V} {vs : List V} {d : D} {ds : List D} : DR g F v d → DRs g F vs ds → DRs g F (v :: vs) (d :: ds)
inductive DRf (g : G) (F : FH) : List (Str × V) → List (Str × D) → Prop
  | nil : DRf g F [] []
  | cons {n : Str} {v : V} {vs : List (Str × V)} {d : D} {ds : List (Str × D)} : DR g F v d → DRf g F vs ds → DRf g F ((n, v) :: vs) ((n, d) :: ds)
inductive DRk (g : G) (F : FH) : List (Key × V) → List (Key × D) → Prop
  | nil : DRk g F [] []
  | cons {n : Key} {v : V} {vs : List (Key × V)} {d : D} {ds : List (Key × D)} : DR g F v d → DRk g F vs ds → DRk g F ((n, v) :: vs) ((n, d) :: ds)
end
theorem same_T {K : PySem.W.Frag} {H H' : Hp} {a : Addr} {xs : List V} (e : Same H H') (h : SqT K H a xs) : SqT K H' a xs := by
  rcases h with (h | ⟨o, h⟩) | h
  · exact .inl (.inl (e _ _ h))
  · exact .inl (.inr ⟨o, e _ _ h⟩)
  · exact .inr h
mutual
theorem DR.mono {g : G} {F F' : FH} (e : FSame F F') : ∀ {v : V} {d : D}, DR g F v d → DR g F' v d
  | _, _, .non => .non
  | _, _, .bl b => .bl b
  | _, _, .int i => .int i
  | _, _, .str s => .str s
  | _, _, .lst h r => .lst (e.fz _ _ h) (DRs.mono e r)
  | _, _, .tup h r => .tup (same_T e.fz h) (DRs.mono e r)
  | _, _, .box => .box
  | _, _, .cel h => .cel (e.ad _ _ h)
  | _, _, .obj h h2 h3 r => .obj (e.fz _ _ h) (e.fz _ _ h2) h3 (DRf.mono e r)
  | _, _, .dct h r => .dct (e.fz _ _ h) (DRk.mono e r)
theorem DRs.mono {g : G} {F F' : FH} (e : FSame F F') : ∀ {v : List V} {d : List D}, DRs g F v d → DRs g F' v d
  | _, _, .nil => .nil
  | _, _, .cons h r => .cons (DR.mono e h) (DRs.mono e r)
theorem DRf.mono {g : G} {F F' : FH} (e : FSame F F') : ∀ {v : List (Str × V)} {d : List (Str × D)}, DRf g F v d → DRf g F' v d
  | _, _, .nil => .nil
  | _, _, .cons h r => .cons (DR.mono e h) (DRf.mono e r)
theorem DRk.mono {g : G} {F F' : FH} (e : FSame F F') : ∀ {v : List (Key × V)} {d : List (Key × D)}, DRk g F v d → DRk g F' v d
  | _, _, .nil => .nil
  | _, _, .cons h r => .cons (DR.mono e h) (DRk.mono e r)
end
section
variable {g : G} {F F' : FH} {H H' : Hp}
theorem DRs.length : ∀ {v : List V} {d : List D}, DRs g F v d → v.length = d.length
  | _, _, .nil => rfl
  | _, _, .cons _ r => congrArg (· + 1) r.length
theorem DRs.get : ∀ {vs : List V} {ds : List D} {i : Nat} {d : D}, DRs g F vs ds → ds[i]? = some d → ∃ v, vs[i]? = some v ∧ DR g F v d
  | _, _, _, _, .nil, e => by simp at e
  | _, _, 0, _, .cons r _, e => by simp at e; subst e; exact ⟨_, rfl, r⟩
  | _, _, i + 1, x, .cons _ t, e => by
    obtain ⟨u, h1, h2⟩ := DRs.get (i := i) (d := x) t (by simpa using e)
    exact ⟨u, by simpa using h1, h2⟩
theorem DRs.append : ∀ {v v' : List V} {d d' : List D}, DRs g F v d → DRs g F v' d' → DRs g F (v ++ v') (d ++ d')
  | _, _, _, _, .nil, s => s
  | _, _, _, _, .cons r t, s => .cons r (DRs.append t s)
theorem DRs.take : ∀ {v : List V} {d : List D} (n : Nat), DRs g F v d → DRs g F (v.take n) (d.take n)
  | _, _, 0, _ => .nil
  | _, _, _ + 1, .nil => .nil
  | _, _, n + 1, .cons r t => .cons r (DRs.take n t)
theorem DRs.drop : ∀ {v : List V} {d : List D} (n : Nat), DRs g F v d → DRs g F (v.drop n) (d.drop n)
  | _, _, 0, r => r
  | _, _, _ + 1, .nil => .nil
  | _, _, n + 1, .cons _ t => DRs.drop n t
end

/-- what may change: a list, a dict, an object -/
inductive Cell where
  | lst (ds : List D) | dct (kvs : List (Key × D)) | obj (c : Str) (fs : List (Str × D)) | lck (kvs : List (Key × D))
structure Bx where
  cells : List Int
  ix : Nat
  big : Int
  mark : Int
  st : List Cell := []
def CellOk (g : G) (F : FH) (H : Hp) (a : Addr) : Cell → Prop
  | .lst ds => ∃ vs, H a = some (.lst vs) ∧ DRs g F vs ds
  | .dct kvs => ∃ xs, H a = some (.dK xs) ∧ DRk g F xs kvs
  | .obj c fs => ∃ C dx vs, H a = some (.ins C dx vs) ∧ H dx = some (.own a) ∧ g.cls c = some C ∧ DRf g F vs fs
  | .lck kvs => ∃ xs od, H a = some (.frz od (.dK xs)) ∧ DRk g F xs kvs
theorem CellOk.at_ {g : G} {F : FH} {H : Hp} {a : Addr} {c : Cell} (h : CellOk g F H a c) : H a ≠ none := by
  cases c with
  | lst ds => obtain ⟨_, e, _⟩ := h; rw [e]; simp
  | dct ds => obtain ⟨_, e, _⟩ := h; rw [e]; simp
  | obj c ds => obtain ⟨_, _, _, e, _⟩ := h; rw [e]; simp
  | lck ds => obtain ⟨_, _, e, _⟩ := h; rw [e]; simp
/-- a cell is kept while it is not changed itself -/
theorem CellOk.keep {g : G} {F F' : FH} {H H' : Hp} {a : Addr} {c : Cell} (h : CellOk g F H a c) (e : FSame F F') (ka : H' a = H a) (ko : ∀ b x, H b = some (.own x) → H' b = some (.own x)) : CellOk g F' H' a c := by
  cases c with
  | lst ds => obtain ⟨vs, e1, r⟩ := h; exact ⟨vs, ka.trans e1, r.mono e⟩
  | dct ds => obtain ⟨vs, e1, r⟩ := h; exact ⟨vs, ka.trans e1, r.mono e⟩
  | obj c ds => obtain ⟨C, dx, vs, e1, e2, e3, r⟩ := h; exact ⟨C, dx, vs, ka.trans e1, ko _ _ e2, e3, r.mono e⟩
  | lck ds => obtain ⟨vs, od, e1, r⟩ := h; exact ⟨vs, od, ka.trans e1, r.mono e⟩
structure BxOk (g : G) (F : FH) (w : Bx) (H : Hp) : Prop where
  at_ : ∃ c, H g.bx = some (.lst [.ref c, .int (w.ix : Int), .int w.big, .int w.mark]) ∧ F c = some (.lst (w.cells.map V.int))
  no : F g.bx = none
  big0 : 0 ≤ w.big
  mk0 : 0 ≤ w.mark
  mk1 : w.mark < 2147483647
  nc : w.cells.length ≤ 63
  cel : ∀ i c, w.st[i]? = some c → ∃ a, F.ad i = some a ∧ F.fz a = none ∧ a ≠ g.bx ∧ CellOk g F H a c
  adl : ∀ i a, F.ad i = some a → i < w.st.length
  inj : ∀ i j a, F.ad i = some a → F.ad j = some a → i = j
  tabs : LamX.Tabs g.cls.tb H
  ntb : ∀ a ps, F.fz a ≠ some (.tbl ps)
theorem BxOk.nocell {g : G} {F : FH} {w : Bx} {H : Hp} (b : BxOk g F w H) {i : Nat} {a : Addr} (h : F.ad i = some a) : F.fz a = none ∧ a ≠ g.bx ∧ H a ≠ none := by
  have hl := b.adl i a h
  obtain ⟨a', e1, e2, e3, e4⟩ := b.cel i _ (List.getElem?_eq_getElem hl)
  rw [h] at e1; cases e1
  exact ⟨e2, e3, e4.at_⟩
structure Ext (g : G) (F : FH) (H : Hp) (F' : FH) (H' : Hp) (w : Bx) : Prop where
  ff : FSame F F'
  hh : ∀ a o, a ≠ g.bx → (∀ i, F.ad i ≠ some a) → (∀ ps, o ≠ .tbl ps) → H a = some o → H' a = some o
  dom : ∀ a, H' a = none → H a = none
  new : ∀ a o, F' a = some o → F a = some o ∨ H a = none
  nad : ∀ i a, F'.ad i = some a → F.ad i = some a ∨ H a = none
  sub : Same F' H'
  bx : BxOk g F' w H'
  frz : ∀ a od u, H a = some (.frz od u) → H' a = some (.frz od u)
theorem Tabs.keep {T : List (Addr × Str)} {H H' : Hp} (t : LamX.Tabs T H) (k : ∀ a o, (∀ vs, o ≠ .lst vs) → (∀ vs, o ≠ .dK vs) → (∀ C d vs, o ≠ .ins C d vs) → H a = some o → H' a = some o) : LamX.Tabs T H' := fun p hp => by
  obtain ⟨ps, h1, h2, h3⟩ := t p hp
  refine ⟨ps, k _ _ (fun _ z => by cases z) (fun _ z => by cases z) (fun _ _ _ z => by cases z) h1, h2, fun pos cv hc => ?_⟩
  obtain ⟨c, e1, e2⟩ := h3 pos cv hc
  exact ⟨c, e1, k _ _ (fun _ z => by unfold LamX.CodeO at z; cases z) (fun _ z => by unfold LamX.CodeO at z; cases z) (fun _ _ _ z => by unfold LamX.CodeO at z; cases z) e2⟩
/-- more is frozen -/
theorem BxOk.mono {g : G} {F F' : FH} {H : Hp} {w : Bx} (b : BxOk g F w H) (e : FSame F F') (ea : F'.ad = F.ad) (n : F' g.bx = none) (nc : ∀ i a, F.ad i = some a → F'.fz a = none) (nt : ∀ a ps, F'.fz a ≠ some (.tbl ps)) : BxOk g F' w H where
  at_ := let ⟨c, h1, h2⟩ := b.at_; ⟨c, h1, e.fz _ _ h2⟩
  no := n
  big0 := b.big0
  mk0 := b.mk0
  mk1 := b.mk1
  nc := b.nc
  cel := fun i c h => let ⟨a, h1, _, h3, h4⟩ := b.cel i c h; ⟨a, by rw [ea]; exact h1, nc i a h1, h3, h4.keep e rfl fun _ _ q => q⟩
  adl := by rw [ea]; exact b.adl
  inj := by rw [ea]; exact b.inj
  tabs := b.tabs
  ntb := nt
/-- the heap turns, away from the box and the cells -/
theorem BxOk.heap {g : G} {F : FH} {H H' : Hp} {w : Bx} (b : BxOk g F w H) (e : H' g.bx = H g.bx) (kc : ∀ i a, F.ad i = some a → H' a = H a) (ko : ∀ a o, (∀ vs, o ≠ .lst vs) → (∀ vs, o ≠ .dK vs) → (∀ C d vs, o ≠ .ins C d vs) → H a = some o → H' a = some o) : BxOk g F w H' where
  at_ := let ⟨c, h1, h2⟩ := b.at_; ⟨c, e.trans h1, h2⟩
  no := b.no
  big0 := b.big0
  mk0 := b.mk0
  mk1 := b.mk1
  nc := b.nc
  cel := fun i c h => let ⟨a, h1, h2, h3, h4⟩ := b.cel i c h; ⟨a, h1, h2, h3, h4.keep (FSame.refl F) (kc i a h1) fun x y q => ko x _ (fun _ z => by cases z) (fun _ z => by cases z) (fun _ _ _ z => by cases z) q⟩
  adl := b.adl
  inj := b.inj
  tabs := Tabs.keep b.tabs ko
  ntb := b.ntb
/-- all stays -/
theorem BxOk.grow {g : G} {F : FH} {H H' : Hp} {w : Bx} (b : BxOk g F w H) (k : ∀ a o, H a = some o → H' a = some o) : BxOk g F w H' := by
  refine b.heap ?_ (fun i a h => ?_) (fun a o _ _ _ h => k a o h)
  · obtain ⟨c, h1, _⟩ := b.at_; rw [h1]; exact k _ _ h1
  · cases q : H a with
    | none => exact absurd q (b.nocell h).2.2
    | some o => exact k _ _ q
section
variable {g : G} {F F1 F2 : FH} {H H1 H2 : Hp} {w w1 w2 : Bx}
theorem Ext.refl (s : Same F H) (b : BxOk g F w H) : Ext g F H F H w := ⟨FSame.refl F, fun _ _ _ _ _ h => h, fun _ h => h, fun _ _ h => .inl h, fun _ _ h => .inl h, s, b, fun _ _ _ h => h⟩
theorem Ext.fresh (a : Ext g F H F1 H1 w) {p : Addr} (n : H1 p = none) : H p = none := a.dom p n
theorem Ext.trans (a : Ext g F H F1 H1 w1) (b : Ext g F1 H1 F2 H2 w2) : Ext g F H F2 H2 w2 where
  ff := a.ff.trans b.ff
  hh := fun x o n nc nt h => b.hh x o n (fun i q => (a.nad i x q).elim (nc i) fun z => by rw [h] at z; cases z) nt (a.hh x o n nc nt h)
  dom := fun x h => a.dom x (b.dom x h)
  new := fun x o h => by
    rcases b.new x o h with h1 | h1
    · exact a.new x o h1
    · exact .inr (a.dom x h1)
  nad := fun i x h => by
    rcases b.nad i x h with h1 | h1
    · exact a.nad i x h1
    · exact .inr (a.dom x h1)
  sub := b.sub
  bx := b.bx
  frz := fun x od u h => b.frz x od u (a.frz x od u h)
theorem upd_dom {H : Hp} {p a : Addr} {o : HO} (h : upd H p o a = none) : H a = none := by
  by_cases e : a = p
  · rw [e, upd_same] at h; cases h
  · rw [upd_ne e] at h; exact h
/-- a new object is laid, and frozen -/
theorem Ext.lay {p : Addr} {o : HO} (s : Same F H) (b : BxOk g F w H) (np : H p = none) (ho : ∀ ps, o ≠ .tbl ps := by intro _ z; cases z) : Ext g F H (F.upd p o) (upd H p o) w := by
  have nF : F p = none := by
    cases q : F p with
    | none => rfl
    | some u => rw [s p u q] at np; cases np
  have nb : p ≠ g.bx := fun e => by
    obtain ⟨c, h, _⟩ := b.at_
    rw [e, h] at np; cases np
  have nc : ∀ i, F.ad i ≠ some p := fun i h => (b.nocell h).2.2 np
  have fs : FSame F (F.upd p o) := ⟨fun a u h => by show upd F.fz p o a = some u; rw [upd_ne (ne_of_none h nF)]; exact h, fun _ _ h => h⟩
  refine ⟨fs, fun a u _ _ _ h => ?_, fun a h => upd_dom h, fun a u h => ?_, fun _ _ h => .inl h, fun a u h => ?_, ?_, fun a od u h => by rw [upd_ne (ne_of_none h np)]; exact h⟩
  · rw [upd_ne (ne_of_none h np)]; exact h
  · by_cases e : a = p
    · exact .inr (e ▸ np)
    · have h : upd F.fz p o a = some u := h
      rw [upd_ne e] at h; exact .inl h
  · have h : upd F.fz p o a = some u := h
    by_cases e : a = p
    · rw [e, upd_same] at h ⊢; exact h
    · rw [upd_ne e] at h ⊢; exact s a u h
  · refine (b.mono fs rfl ?_ (fun i a h => ?_) fun a ps h => ?_).grow fun a u h => ?_
    · show upd F.fz p o g.bx = none
      rw [upd_ne nb.symm]; exact b.no
    · show upd F.fz p o a = none
      rw [upd_ne (show a ≠ p from fun z => nc i (z ▸ h))]; exact (b.nocell h).1
    · have h : upd F.fz p o a = some (.tbl ps) := h
      by_cases e : a = p
      · rw [e, upd_same] at h; cases h; exact ho ps rfl
      · rw [upd_ne e] at h; exact b.ntb a ps h
    · rw [upd_ne (ne_of_none h np)]; exact h
/-- a new object is laid, not frozen yet -/
theorem Ext.own {p : Addr} {o : HO} (s : Same F H) (b : BxOk g F w H) (np : H p = none) : Ext g F H F (upd H p o) w := by
  have k : ∀ a u, H a = some u → upd H p o a = some u := fun a u h => by rw [upd_ne (ne_of_none h np)]; exact h
  exact ⟨FSame.refl F, fun a u _ _ _ h => k a u h, fun a h => upd_dom h, fun _ _ h => .inl h, fun _ _ h => .inl h, fun a u h => k a u (s a u h), b.grow k, fun a od u h => k a _ h⟩
/-- an object that is not frozen is frozen -/
theorem Ext.freeze {p : Addr} {o : HO} (a : Ext g F H F1 H1 w) (np : H p = none) (n1 : F1.free p) (h1 : H1 p = some o) (nb : p ≠ g.bx) (ho : ∀ ps, o ≠ .tbl ps := by intro _ z; cases z) : Ext g F H (F1.upd p o) H1 w := by
  have fs : FSame F1 (F1.upd p o) := ⟨fun x u h => by show upd F1.fz p o x = some u; rw [upd_ne (ne_of_none h n1.1)]; exact h, fun _ _ h => h⟩
  refine ⟨a.ff.trans fs, a.hh, a.dom, fun x u h => ?_, a.nad, fun x u h => ?_, a.bx.mono fs rfl ?_ (fun i x h => ?_) fun x ps h => ?_, a.frz⟩
  · have h : upd F1.fz p o x = some u := h
    by_cases e : x = p
    · exact .inr (e ▸ np)
    · rw [upd_ne e] at h; exact a.new x u h
  · have h : upd F1.fz p o x = some u := h
    by_cases e : x = p
    · rw [e, upd_same] at h; rw [e, h1]; exact h
    · rw [upd_ne e] at h; exact a.sub x u h
  · show upd F1.fz p o g.bx = none
    rw [upd_ne nb.symm]; exact a.bx.no
  · show upd F1.fz p o x = none
    rw [upd_ne (show x ≠ p from fun z => n1.2 i (z ▸ h))]; exact (a.bx.nocell h).1
  · have h : upd F1.fz p o x = some (.tbl ps) := h
    by_cases e : x = p
    · rw [e, upd_same] at h; cases h; exact ho ps rfl
    · rw [upd_ne e] at h; exact a.bx.ntb x ps h
/-- what is not in the heap is free -/
theorem free_of (s : Same F H) (b : BxOk g F w H) {p : Addr} (n : H p = none) : F.free p := by
  refine ⟨?_, fun i h => (b.nocell h).2.2 n⟩
  cases q : F p with
  | none => rfl
  | some u => rw [s p u q] at n; cases n
/-- what was free and there stays free -/
theorem Ext.free (x : Ext g F H F1 H1 w) {p : Addr} {o : HO} (n : F.free p) (h : H p = some o) : F1.free p := by
  refine ⟨?_, fun i q => ?_⟩
  · cases q : F1.fz p with
    | none => rfl
    | some u =>
      rcases x.new p u q with z | z
      · rw [show F.fz p = none from n.1] at z; cases z
      · rw [h] at z; cases z
  · rcases x.nad i p q with z | z
    · exact n.2 i z
    · rw [h] at z; cases z
end

inductive R (α : Type) where
  | ok (a : α) (w : Bx) | err (c : Str) (fs : List (Str × D)) (w : Bx) | bad
def R.bind {α β : Type} : R α → (α → Bx → R β) → R β
  | .ok a w, k => k a w
  | .err c fs w, _ => .err c fs w
  | .bad, _ => .bad
def R.ofO {α : Type} : Option α → Bx → R α
  | some a, w => .ok a w
  | none, _ => .bad
@[simp] theorem R.bind_ok {α β : Type} (a : α) (w : Bx) (k : α → Bx → R β) : (R.ok a w).bind k = k a w := rfl
@[simp] theorem R.bind_err {α β : Type} (c : Str) (fs : List (Str × D)) (w : Bx) (k : α → Bx → R β) : (R.err c fs w : R α).bind k = .err c fs w := rfl
@[simp] theorem R.bind_bad {α β : Type} (k : α → Bx → R β) : (R.bad : R α).bind k = .bad := rfl
@[simp] theorem R.ofO_some {α : Type} (a : α) (w : Bx) : R.ofO (some a) w = .ok a w := rfl
@[simp] theorem R.ofO_none {α : Type} (w : Bx) : (R.ofO none w : R α) = .bad := rfl

/-- what is wanted of an exception of the class c -/
def PErr (g : G) (F : FH) (H : Hp) (E : XK) (c : Str) (fs : List (Str × D)) (w : Bx) : Prop :=
  ∀ (cl a : Addr) (vs : List (Str × V)) (H' : Hp) (F' : FH), Ext g F H F' H' w → H a = none → g.cls c = some cl → H' a = some (.xd vs) → DRf g F' vs fs → E (.ref cl) (some a) H'
/-- the wish of a result: Qk of a good one -/
def PostG {α : Type} (g : G) (F : FH) (H : Hp) (E : XK) (Qk : α → Bx → Prop) : R α → Prop
  | .ok a w => Qk a w
  | .err c fs w => PErr g F H E c fs w
  | .bad => False
def Post (g : G) (F : FH) (H : Hp) (Q : VK) (E : XK) : R D → Prop := PostG g F H E fun d w => ∀ (v : V) (H' : Hp) (F' : FH), Ext g F H F' H' w → DR g F' v d → Q v H'
def PostA (g : G) (F : FH) (H : Hp) (Q : List V → Hp → Prop) (E : XK) : R (List D) → Prop := PostG g F H E fun ds w => ∀ (vs : List V) (H' : Hp) (F' : FH), Ext g F H F' H' w → DRs g F' vs ds → Q vs H'
def PostT (g : G) (F : FH) (H : Hp) (Q : Bool → Hp → Prop) (E : XK) : R Bool → Prop := PostG g F H E fun b w => ∀ (H' : Hp) (F' : FH), Ext g F H F' H' w → Q b H'
/-- a new list, not frozen -/
def PostO (g : G) (F : FH) (H : Hp) (Q : VK) (E : XK) : R (List D) → Prop := PostG g F H E fun ds w => ∀ (p : Addr) (vs : List V) (H' : Hp) (F' : FH), Ext g F H F' H' w → H p = none → F'.free p → H' p = some (.lst vs) → DRs g F' vs ds → Q (.ref p) H'
section
variable {g : G} {F F1 F2 : FH} {H H1 H2 : Hp} {w w1 w2 : Bx} {E : XK}
theorem PErr.of {c : Str} {fs : List (Str × D)} (a : Ext g F H F1 H1 w) (h : PErr g F H E c fs w2) : PErr g F1 H1 E c fs w2 :=
  fun cl x vs H' F' e n k l r => h cl x vs H' F' (a.trans e) (a.fresh n) k l r
/-- a step, then the rest -/
theorem PostG.bind {α β : Type} {r : R α} {k : α → Bx → R β} {Qk : β → Bx → Prop} (h : PostG g F H E Qk (r.bind k)) : PostG g F H E (fun a w => PostG g F H E Qk (k a w)) r := by
  cases r with
  | ok a w => exact h
  | err c fs w => exact h
  | bad => exact h
theorem PostG.imp {α : Type} {r : R α} {Q1 Q2 : α → Bx → Prop} (h : PostG g F H E Q1 r) (i : ∀ a w, r = .ok a w → Q1 a w → Q2 a w) : PostG g F H E Q2 r := by
  cases r with
  | ok a w => exact i a w rfl h
  | err c fs w => exact h
  | bad => exact h
/-- the wish as it is behind a step -/
theorem PostG.ext {α : Type} {r : R α} {Q1 Q2 : α → Bx → Prop} (a : Ext g F H F1 H1 w) (h : PostG g F H E Q1 r) (i : ∀ a w, Q1 a w → Q2 a w) : PostG g F1 H1 E Q2 r := by
  cases r with
  | ok x w => exact i x w h
  | err c fs w => exact PErr.of a h
  | bad => exact h
theorem Post.of {r : R D} {Q : VK} (a : Ext g F H F1 H1 w) (h : Post g F H Q E r) : Post g F1 H1 Q E r :=
  PostG.ext a h fun _ _ q v H' F' e r => q v H' F' (a.trans e) r
theorem PostT.of {r : R Bool} {Q : Bool → Hp → Prop} (a : Ext g F H F1 H1 w) (h : PostT g F H Q E r) : PostT g F1 H1 Q E r :=
  PostG.ext a h fun _ _ q H' F' e => q H' F' (a.trans e)
end
/-- nothing is let out -/
theorem passLN {X : Cx} : Passes (L2N.CX X.prog X.w) X E0 := fun _ _ _ _ _ _ _ h => by
  obtain ⟨_, _, _, _, _, _, _, _, _, _, _, _, z⟩ := h
  exact z.elim
end Y
namespace Y
open PySem PySem.Spec PyProof.Rows L2
/-- a lambda: its qualified name, its parameters, body and scope -/
structure LamI where
  q : Str
  ps : Arguments
  bd : Expr
  sc : Scope
/-- the function object of a lambda, its closure from the cells cl -/
def LamF (cl : List (Str × Addr)) (f c' : Addr) (dV : Value) (l : LamI) : HO := .ext fun h => ∃ doc pm ctv, h.get? f = some (PySem.W.kdv_obj "<lambda>" l.q l.ps (.expr l.bd) l.sc (cloFrom cl l.sc.names []) dV doc pm c' ctv)
/-- its defaults: none, or a number -/
def DflF (F : Hp) (dV : Value) (ps : Arguments) : Prop := (ps.defaults = [] ∧ dV = .none) ∨ ∃ t i j p, ps.defaults = [.Constant (.int i) j p] ∧ dV = .ref t ∧ F t = some (.tup [.int i])
inductive SV where
  | dat (d : D) | own (ds : List D) | ins (c : Str) (fs : List (Str × D)) | lam (ls : List LamI) | cls (c : Str)
/-- a list of lambdas, laid and frozen; their code objects are known -/
inductive LamsOk (g : G) (F : FH) (H : Hp) : List V → List LamI → Prop
  | nil : LamsOk g F H [] []
  | cons {f c' : Addr} {dV : Value} {l : LamI} {vs : List V} {ls : List LamI} (hf : F f = some (LamF g.cl f c' dV l)) (hd : DflF F dV l.ps) (nb : c' ≠ g.bx) (na : ∀ i, F.ad i ≠ some c') (hc : H c' = some (LamX.CodeO c' l.q)) (r : LamsOk g F H vs ls) : LamsOk g F H (.ref f :: vs) (l :: ls)
abbrev SL := List (Option SV)
/-- what is wished of an exception, at the slots -/
abbrev EK := L2.St → XK
abbrev kE (E : XK) : EK := fun _ => E
def SvOk (g : G) (F : FH) (H : Hp) : SV → V → Prop
  | .dat d, v => DR g F v d
  | .own ds, v => ∃ p vs, v = .ref p ∧ F.free p ∧ p ≠ g.bx ∧ H p = some (.lst vs) ∧ DRs g F vs ds
  | .lam ls, v => ∃ p vs, v = .ref p ∧ F p = some (.lst vs) ∧ LamsOk g F H vs ls
  | .cls c, v => ∃ C, v = .ref C ∧ g.cls c = some C
  | .ins c fs, v => ∃ C vs, v = .ref g.me ∧ g.cls c = some C ∧ F.free g.me ∧ F.free g.md ∧ g.me ≠ g.bx ∧ g.md ≠ g.bx ∧ H g.me = some (.ins C g.md vs) ∧ H g.md = some (.own g.me) ∧ DRf g F vs fs
structure Rel (g : G) (F : FH) (w : Bx) (S : SL) (σ : L2.St) (H : Hp) : Prop where
  sub : Same F H
  bx : BxOk g F w H
  len : S.length = σ.length
  sl : ∀ (i : Nat) (s : SV), S[i]? = some (some s) → ∃ v, σ[i]? = some (some v) ∧ SvOk g F H s v
  inj : ∀ (i j : Nat) (ds ds2 : List D) (v : V), S[i]? = some (some (.own ds)) → S[j]? = some (some (.own ds2)) → σ[i]? = some (some v) → σ[j]? = some (some v) → i = j
theorem DflF.mono {F F' : Hp} {dV : Value} {ps : Arguments} (e : Same F F') (h : DflF F dV ps) : DflF F' dV ps := by
  rcases h with h | ⟨t, i, j, p, h1, h2, h3⟩
  · exact .inl h
  · exact .inr ⟨t, i, j, p, h1, h2, e _ _ h3⟩
theorem LamsOk.keep {g : G} {F F' : FH} {H H' : Hp} (e : Same F.fz F'.fz) (ka : ∀ a q, a ≠ g.bx → (∀ i, F.ad i ≠ some a) → H a = some (LamX.CodeO a q) → H' a = some (LamX.CodeO a q) ∧ ∀ i, F'.ad i ≠ some a) : ∀ {vs : List V} {ls : List LamI}, LamsOk g F H vs ls → LamsOk g F' H' vs ls
  | _, _, .nil => .nil
  | _, _, .cons hf hd nb na hc r => .cons (e _ _ hf) (hd.mono e) nb (ka _ _ nb na hc).2 (ka _ _ nb na hc).1 (r.keep e ka)
theorem LamsOk.ext {g : G} {F F' : FH} {H H' : Hp} {w : Bx} {vs : List V} {ls : List LamI} (x : Ext g F H F' H' w) (h : LamsOk g F H vs ls) : LamsOk g F' H' vs ls :=
  h.keep x.ff.fz fun a q nb na hc => ⟨x.hh a _ nb na LamX.codeO_ne hc, fun i z => by
    rcases x.nad i a z with y | y
    · exact na i y
    · rw [hc] at y; cases y⟩
/-- another object turns -/
theorem LamsOk.upd {g : G} {F : FH} {H : Hp} {q : Addr} {o o' : HO} {vs : List V} {ls : List LamI} (h : LamsOk g F H vs ls) (hq : H q = some o) (ne : ∀ z, o ≠ .ext z) : LamsOk g F (L2.upd H q o') vs ls :=
  h.keep (Same.refl _) fun a z nb na hc => ⟨by rw [upd_ne fun e => by rw [e, hq] at hc; exact ne _ (Option.some.inj hc)]; exact hc, na⟩
theorem SvOk.ext {g : G} {F F' : FH} {H H' : Hp} {w : Bx} {s : SV} {v : V} (x : Ext g F H F' H' w) (h : SvOk g F H s v) : SvOk g F' H' s v := by
  cases s with
  | dat d => exact DR.mono x.ff h
  | own ds =>
    obtain ⟨p, vs, e, n, nb, hp, r⟩ := h
    exact ⟨p, vs, e, x.free n hp, nb, x.hh p _ nb n.2 (fun _ z => by cases z) hp, r.mono x.ff⟩
  | lam ls =>
    obtain ⟨p, vs, e, h1, h2⟩ := h
    exact ⟨p, vs, e, x.ff.fz _ _ h1, h2.ext x⟩
  | cls c => exact h
  | ins c fs =>
    obtain ⟨C, vs, e, hc, n1, n2, nb1, nb2, h1, h2, r⟩ := h
    exact ⟨C, vs, e, hc, x.free n1 h1, x.free n2 h2, nb1, nb2, x.hh _ _ nb1 n1.2 (fun _ z => by cases z) h1, x.hh _ _ nb2 n2.2 (fun _ z => by cases z) h2, r.mono x.ff⟩
theorem Rel.ext {g : G} {F F' : FH} {H H' : Hp} {w w' : Bx} {S : SL} {σ : L2.St} (R : Rel g F w S σ H) (x : Ext g F H F' H' w') : Rel g F' w' S σ H' :=
  ⟨x.sub, x.bx, R.len, fun i s e => let ⟨v, h1, h2⟩ := R.sl i s e; ⟨v, h1, h2.ext x⟩, R.inj⟩
theorem Rel.ex {g : G} {F : FH} {H : Hp} {w : Bx} {S : SL} {σ : L2.St} (R : Rel g F w S σ H) : Ext g F H F H w := Ext.refl R.sub R.bx

abbrev EM := SL → Bx → R D
abbrev TM := SL → Bx → R Bool
abbrev AM := SL → Bx → R (List D)
structure DE (X : Cx) (g : G) (E : EK) (e : Expr) (f : EM) : Prop where
  run : ∃ t, PE X e t ∧ ∀ σ H Q F S w, Rel g F w S σ H → Post g F H Q (E σ) (f S w) → t σ H Q
/-- a new list -/
structure DO (X : Cx) (g : G) (E : EK) (e : Expr) (f : AM) : Prop where
  run : ∃ t, PE X e t ∧ ∀ σ H Q F S w, Rel g F w S σ H → PostO g F H Q (E σ) (f S w) → t σ H Q
structure DT (X : Cx) (g : G) (E : EK) (e : Expr) (f : TM) : Prop where
  run : ∃ t, PT X e t ∧ ∀ σ H Q F S w, Rel g F w S σ H → PostT g F H Q (E σ) (f S w) → t σ H Q
structure DW (X : Cx) (g : G) (E : EK) (e : Expr) (f : TM) : Prop where
  run : ∃ t, PW X e t ∧ ∀ σ H Q F S w, Rel g F w S σ H → PostT g F H Q (E σ) (f S w) → t σ H Q
structure DA (X : Cx) (g : G) (E : EK) (es : List Expr) (f : AM) : Prop where
  run : ∃ t, PA X es t ∧ ∀ σ H Q F S w, Rel g F w S σ H → PostA g F H Q (E σ) (f S w) → t σ H Q

section
variable {X : Cx} {g : G} {E : EK} {e a b c : Expr} {es : List Expr} {pos : Pos} {fa fb f : EM} {fc : TM}
def eVar (i : Nat) : EM := fun S w => match S[i]? with
  | some (some (.dat d)) => .ok d w
  | _ => .bad
def eC (d : D) : EM := fun _ w => .ok d w
theorem de_var (i : Nat) {x : Str} (hN : X.N[i]? = some x := by rfl) (hv : Vis X.env.scope x := by first | exact Or.inl rfl | exact Or.inr (Or.inl rfl) | exact Or.inr (Or.inr rfl)) (hd : (x == ("__debug__" : Str)) = false := by decide)
    (hcd : (x == ("__classdict__" : Str)) = false := by decide) : DE X g E (.Name x pos) (eVar i) := by
  refine ⟨_, pe_var hN hv hd hcd, fun σ H Q F S w R h => ?_⟩
  unfold eVar at h
  split at h
  · rename_i d hs
    obtain ⟨v, e1, e2⟩ := R.sl i _ hs
    exact ⟨v, e1, h v H F R.ex e2⟩
  · exact h.elim
theorem de_int {i : Int} {j : Nat} : DE X g E (.Constant (.int i) j pos) (eC (.int i)) := ⟨_, pe_int, fun σ H Q F S w R h => h _ H F R.ex (.int i)⟩
theorem de_bl {i : Bool} {j : Nat} : DE X g E (.Constant (.bool i) j pos) (eC (.bl i)) := ⟨_, pe_bl, fun σ H Q F S w R h => h _ H F R.ex (.bl i)⟩
theorem de_str {i : Str} {j : Nat} : DE X g E (.Constant (.str i) j pos) (eC (.str i)) := ⟨_, pe_str, fun σ H Q F S w R h => h _ H F R.ex (.str i)⟩
theorem de_non {j : Nat} : DE X g E (.Constant .none j pos) (eC .non) := ⟨_, pe_non, fun σ H Q F S w R h => h _ H F R.ex .non⟩
/-- r does on values what m does on data -/
def OpD (g : G) (r : R2) (m : D → D → Option D) : Prop := ∀ (F : FH) (H : Hp) (w : Bx) (x y : V) (d e z : D) (Q : VK), Same F H → BxOk g F w H → DR g F x d → DR g F y e → m d e = some z →
  (∀ v H' F', Ext g F H F' H' w → DR g F' v z → Q v H') → r x y H Q
def eBin (m : D → D → Option D) (fa fb : EM) : EM := fun S w => (fa S w).bind fun d w1 => (fb S w1).bind fun e w2 => R.ofO (m d e) w2
theorem post_ofO {E1 : XK} {F : FH} {H : Hp} {Q : D → Bx → Prop} {o : Option D} {w : Bx} (h : PostG g F H E1 Q (R.ofO o w)) : ∃ z, o = some z ∧ Q z w := by
  cases o with
  | none => exact h.elim
  | some z => exact ⟨z, rfl, h⟩
theorem post_ofO' {α : Type} {E1 : XK} {F : FH} {H : Hp} {Q : α → Bx → Prop} {o : Option α} {w : Bx} (h : PostG g F H E1 Q (R.ofO o w)) : ∃ z, o = some z ∧ Q z w := by
  cases o with
  | none => exact h.elim
  | some z => exact ⟨z, rfl, h⟩
theorem bin_run {r : R2} {m : D → D → Option D} {ta tb : TE} (hm : OpD g r m) (ra : ∀ σ H Q F S w, Rel g F w S σ H → Post g F H Q (E σ) (fa S w) → ta σ H Q) (rb : ∀ σ H Q F S w, Rel g F w S σ H → Post g F H Q (E σ) (fb S w) → tb σ H Q) :
    ∀ σ H Q F S w, Rel g F w S σ H → Post g F H Q (E σ) (eBin m fa fb S w) → tOp r ta tb σ H Q := by
  intro σ H Q F S w R h
  refine ra σ H _ F S w R (PostG.imp (PostG.bind h) fun d w1 _ h1 v H1 F1 x1 r1 => ?_)
  refine rb σ H1 _ F1 S w1 (R.ext x1) (PostG.ext x1 (PostG.bind h1) fun e w2 h2 u H2 F2 x2 r2 => ?_)
  obtain ⟨z, hz, q⟩ := post_ofO h2
  exact hm F2 H2 w2 v u d e z Q x2.sub x2.bx (r1.mono x2.ff) r2 hz fun v' H' F' x3 r3 => q v' H' F' ((x1.trans x2).trans x3) r3
theorem de_op {op : Operator} {r : R2} {m : D → D → Option D} (ho : OpR X (binaryOp op) r) (hm : OpD g r m) (ha : DE X g E a fa) (hb : DE X g E b fb) : DE X g E (.BinOp a op b pos) (eBin m fa fb) := by
  obtain ⟨ta, pa, ra⟩ := ha.run
  obtain ⟨tb, pb, rb⟩ := hb.run
  exact ⟨_, pe_op ho pa pb, bin_run hm ra rb⟩
theorem de_cmp {op : CmpOp} {r : R2} {m : D → D → Option D} (ho : OpR X (compareOp op) r) (hm : OpD g r m) (ha : DE X g E a fa) (hb : DE X g E b fb) (hk : behindInMarks op b = false := by first | exact nomark _ | rfl) : DE X g E (.Compare a [op] [b] pos) (eBin m fa fb) := by
  obtain ⟨ta, pa, ra⟩ := ha.run
  obtain ⟨tb, pb, rb⟩ := hb.run
  exact ⟨_, pe_cmpR ho pa pb hk, bin_run hm ra rb⟩
/-- a value that must be a bool, as a test -/
def tOf (f : EM) : TM := fun S w => (f S w).bind fun d w1 => match d with
  | .bl b => .ok b w1
  | _ => .bad
theorem dt_of {ta : TE} (ra : ∀ σ H Q F S w, Rel g F w S σ H → Post g F H Q (E σ) (fa S w) → ta σ H Q) :
    ∀ σ H (Q : Bool → Hp → Prop) F S w, Rel g F w S σ H → PostT g F H Q (E σ) (tOf fa S w) → ta σ H (fun x H' => ∃ k, x = .bl k ∧ Q k H') := by
  intro σ H Q F S w R h
  refine ra σ H _ F S w R (PostG.imp (PostG.bind h) fun d w1 _ h1 v H1 F1 x1 r1 => ?_)
  cases r1 with
  | bl k => exact ⟨k, rfl, h1 H1 F1 x1⟩
  | _ => exact h1.elim
theorem dt_val (ha : DE X g E a fa) (he : ∀ whole, isTrue a X.env whole = (do let v ← whole; standAt a.pos; holding [v] (truthy v)) := by intro _; rfl) : DT X g E a (tOf fa) := by
  obtain ⟨ta, pa, ra⟩ := ha.run
  exact ⟨_, pt_val pa he, dt_of ra⟩
theorem dt_cmp {op : CmpOp} {r : R2} {m : D → D → Option D} (ho : OpR X (compareOp op) r) (hm : OpD g r m) (ha : DE X g E a fa) (hb : DE X g E b fb) (hk : behindInMarks op b = false := by first | exact nomark _ | rfl) : DT X g E (.Compare a [op] [b] pos) (tOf (eBin m fa fb)) := by
  obtain ⟨ta, pa, ra⟩ := ha.run
  obtain ⟨tb, pb, rb⟩ := hb.run
  exact ⟨_, pt_cmpR ho pa pb hk, dt_of (bin_run hm ra rb)⟩
def tNotM (f : TM) : TM := fun S w => (f S w).bind fun b w1 => .ok (!b) w1
def tAndM (f h : TM) : TM := fun S w => (f S w).bind fun b w1 => if b then h S w1 else .ok false w1
def eIf (t : TM) (fa fb : EM) : EM := fun S w => (t S w).bind fun b w1 => if b then fa S w1 else fb S w1
def eNotM (f : EM) : EM := fun S w => (tOf f S w).bind fun b w1 => .ok (.bl (!b)) w1
def eAndM (f h : EM) : EM := fun S w => (tOf f S w).bind fun b w1 => if b then h S w1 else .ok (.bl false) w1
def eOrM (f h : EM) : EM := fun S w => (tOf f S w).bind fun b w1 => if b then .ok (.bl true) w1 else h S w1
variable {ta tb : TM} {rest : List Expr}
theorem DW.t (h : DW X g E e ta) : DT X g E e ta := let ⟨t, p, r⟩ := h.run; ⟨t, p.pt, r⟩
theorem dt_not (h : DT X g E a ta) : DT X g E (.UnaryOp .Not a pos) (tNotM ta) := by
  obtain ⟨t, p, r⟩ := h.run
  refine ⟨_, pt_not p, fun σ H Q F S w R h => ?_⟩
  exact r σ H _ F S w R (PostG.imp (PostG.bind h) fun b w1 _ h1 H1 F1 x1 => h1 H1 F1 x1)
theorem dw_and1 (h : DT X g E a ta) : DW X g E (.BoolOp .And [a] pos) ta := let ⟨t, p, r⟩ := h.run; ⟨t, pw_and1 p, r⟩
theorem dw_and (ha : DT X g E a ta) (hb : DW X g E (.BoolOp .And (b :: rest) pos) tb) : DW X g E (.BoolOp .And (a :: b :: rest) pos) (tAndM ta tb) := by
  obtain ⟨t, p, r⟩ := ha.run
  obtain ⟨t2, p2, r2⟩ := hb.run
  refine ⟨_, pw_and p p2, fun σ H Q F S w R h => ?_⟩
  refine r σ H _ F S w R (PostG.imp (PostG.bind h) fun b w1 _ h1 H1 F1 x1 => ?_)
  cases b with
  | true => exact iteT (r2 σ H1 Q F1 S w1 (R.ext x1) (PostT.of x1 h1))
  | false => exact iteF (h1 H1 F1 x1)
theorem de_if (hc : DT X g E c ta) (ha : DE X g E a fa) (hb : DE X g E b fb) : DE X g E (.IfExp c a b pos) (eIf ta fa fb) := by
  obtain ⟨t, p, r⟩ := hc.run
  obtain ⟨t1, p1, r1⟩ := ha.run
  obtain ⟨t2, p2, r2⟩ := hb.run
  refine ⟨_, pe_ifExp p p1 p2, fun σ H Q F S w R h => ?_⟩
  refine r σ H _ F S w R (PostG.imp (PostG.bind h) fun b w1 _ h1 H1 F1 x1 => ?_)
  cases b with
  | true => exact iteT (r1 σ H1 Q F1 S w1 (R.ext x1) (Post.of x1 h1))
  | false => exact iteF (r2 σ H1 Q F1 S w1 (R.ext x1) (Post.of x1 h1))
theorem de_not (ha : DE X g E a fa) : DE X g E (.UnaryOp .Not a pos) (eNotM fa) := by
  obtain ⟨t, p, r⟩ := ha.run
  refine ⟨_, pe_not p, fun σ H Q F S w R h => ?_⟩
  exact dt_of r σ H (fun b H' => Q (.bl (!b)) H') F S w R (PostG.imp (PostG.bind h) fun b w1 _ h1 H1 F1 x1 => h1 _ H1 F1 x1 (.bl _))
theorem de_one {op : BoolOp} (ha : DE X g E a fa) : DE X g E (.BoolOp op [a] pos) fa := let ⟨t, p, r⟩ := ha.run; ⟨t, pe_one p, r⟩
theorem de_and (ha : DE X g E a fa) (hb : DE X g E (.BoolOp .And (b :: rest) pos) fb) : DE X g E (.BoolOp .And (a :: b :: rest) pos) (eAndM fa fb) := by
  obtain ⟨t, p, r⟩ := ha.run
  obtain ⟨t2, p2, r2⟩ := hb.run
  refine ⟨_, pe_and p p2, fun σ H Q F S w R h => ?_⟩
  refine dt_of r σ H (fun c H1 => if c = true then t2 σ H1 Q else Q (.bl false) H1) F S w R (PostG.imp (PostG.bind h) fun b w1 _ h1 H1 F1 x1 => ?_)
  cases b with
  | true => exact iteT (r2 σ H1 Q F1 S w1 (R.ext x1) (Post.of x1 h1))
  | false => exact iteF (h1 _ H1 F1 x1 (.bl _))
theorem de_or (ha : DE X g E a fa) (hb : DE X g E (.BoolOp .Or (b :: rest) pos) fb) : DE X g E (.BoolOp .Or (a :: b :: rest) pos) (eOrM fa fb) := by
  obtain ⟨t, p, r⟩ := ha.run
  obtain ⟨t2, p2, r2⟩ := hb.run
  refine ⟨_, pe_or p p2, fun σ H Q F S w R h => ?_⟩
  refine dt_of r σ H (fun c H1 => if c = true then Q (.bl true) H1 else t2 σ H1 Q) F S w R (PostG.imp (PostG.bind h) fun b w1 _ h1 H1 F1 x1 => ?_)
  cases b with
  | false => exact iteF (r2 σ H1 Q F1 S w1 (R.ext x1) (Post.of x1 h1))
  | true => exact iteT (h1 _ H1 F1 x1 (.bl _))
def aNil : AM := fun _ w => .ok [] w
def aCons (f : EM) (h : AM) : AM := fun S w => (f S w).bind fun d w1 => (h S w1).bind fun ds w2 => .ok (d :: ds) w2
variable {fs : AM}
theorem da_nil : DA X g E [] aNil := ⟨_, pa_nil, fun σ H Q F S w R h => h [] H F R.ex .nil⟩
theorem da_cons (ha : DE X g E e fa) (hr : DA X g E es fs) (hs : starEach (e :: es) X.env = (false, eval e X.env) :: starEach es X.env := by rfl) : DA X g E (e :: es) (aCons fa fs) := by
  obtain ⟨t, p, r⟩ := ha.run
  obtain ⟨t2, p2, r2⟩ := hr.run
  refine ⟨_, pa_cons p p2 hs, fun σ H Q F S w R h => ?_⟩
  refine r σ H _ F S w R (PostG.imp (PostG.bind h) fun d w1 _ h1 v H1 F1 x1 q1 => ?_)
  refine r2 σ H1 _ F1 S w1 (R.ext x1) (PostG.ext x1 (PostG.bind h1) fun ds w2 h2 vs H2 F2 x2 q2 => ?_)
  exact h2 (v :: vs) H2 F2 (x1.trans x2) (.cons (q1.mono x2.ff) q2)
def sizeN : Nat := 16777216
def eTup (f : AM) : EM := fun S w => (f S w).bind fun ds w1 => if ds.length ≤ sizeN then .ok (.tup ds) w1 else .bad
def oLst (f : AM) : AM := fun S w => (f S w).bind fun ds w1 => if ds.length ≤ sizeN then .ok ds w1 else .bad
theorem de_tup {x1 : Nat} (h : DA X g E es fs) : DE X g E (.Tuple es x1 pos) (eTup fs) := by
  obtain ⟨t, p, r⟩ := h.run
  refine ⟨_, pe_tup p, fun σ H Q F S w R h => ?_⟩
  refine r σ H _ F S w R (PostG.imp (PostG.bind h) fun ds w1 _ h1 vs H1 F1 x1 q1 => ?_)
  by_cases hl : ds.length ≤ sizeN
  · rw [if_pos hl] at h1
    refine ⟨by rw [q1.length]; exact hl, fun p np => ?_⟩
    exact h1 _ _ _ (x1.trans (Ext.lay x1.sub x1.bx np)) (.tup (.inl (.inl upd_same)) (q1.mono (Ext.lay x1.sub x1.bx np).ff))
  · rw [if_neg hl] at h1; exact h1.elim
theorem do_lst (h : DA X g E es fs) : DO X g E (.List es pos) (oLst fs) := by
  obtain ⟨t, p, r⟩ := h.run
  refine ⟨_, pe_lst p, fun σ H Q F S w R h => ?_⟩
  refine r σ H _ F S w R (PostG.imp (PostG.bind h) fun ds w1 _ h1 vs H1 F1 x1 q1 => ?_)
  by_cases hl : ds.length ≤ sizeN
  · rw [if_pos hl] at h1
    refine ⟨by rw [q1.length]; exact hl, fun p np => ?_⟩
    exact h1 p vs _ F1 (x1.trans (Ext.own x1.sub x1.bx np)) (x1.fresh np) (free_of x1.sub x1.bx np) upd_same q1
  · rw [if_neg hl] at h1; exact h1.elim
/-- a new list that nobody will change -/
def eFrz (f : AM) : EM := fun S w => (f S w).bind fun ds w1 => .ok (.lst ds) w1
theorem DO.de (h : DO X g E e fs) : DE X g E e (eFrz fs) := by
  obtain ⟨t, p, r⟩ := h.run
  refine ⟨t, p, fun σ H Q F S w R h => ?_⟩
  refine r σ H _ F S w R (PostG.imp (PostG.bind h) fun ds w1 _ h1 p vs H1 F1 x1 np n1 hp q1 => ?_)
  have nb : p ≠ g.bx := fun e => by
    obtain ⟨c, h, _⟩ := R.bx.at_
    rw [e, h] at np; cases np
  have x2 := Ext.freeze x1 np n1 hp nb
  exact h1 (.ref p) H1 _ x2 (.lst upd_same (q1.mono (FSame.upd n1.1)))
end
end Y
namespace Y
open PySem PySem.Spec PyProof.Rows L2
mutual
def toPy : D → Option PyData
  | .non => some .none
  | .bl b => some (.bool b)
  | .int i => some (.int i)
  | .str s => some (.str s)
  | .lst ds => (toPys ds).map .list
  | .tup ds => (toPys ds).map .tuple
  | .box => none
  | .obj _ _ => none
  | .dct _ => none
  | .cel _ => none
def toPys : List D → Option (List PyData)
  | [] => some []
  | d :: ds => (toPy d).bind fun p => (toPys ds).bind fun ps => some (p :: ps)
end
mutual
theorem dp_of {g : G} {F : FH} {H : Hp} (s : Same F H) : ∀ {v : V} {d : D} {p : PyData}, DR g F v d → toPy d = some p → Dp g.K H v p
  | _, _, _, .non, e => by rw [toPy] at e; cases e; exact .non
  | _, _, _, .bl b, e => by rw [toPy] at e; cases e; exact .bl b
  | _, _, _, .int b, e => by rw [toPy] at e; cases e; exact .int b
  | _, _, _, .str b, e => by rw [toPy] at e; cases e; exact .str b
  | _, _, _, .lst (ds := ds) h r, e => by
    rw [toPy] at e
    obtain ⟨ps, e1, e2⟩ := Option.map_eq_some_iff.mp e
    subst e2
    exact .lst (.inl (.inl (s _ _ h))) (dps_of s r e1)
  | _, _, _, .tup (ds := ds) h r, e => by
    rw [toPy] at e
    obtain ⟨ps, e1, e2⟩ := Option.map_eq_some_iff.mp e
    subst e2
    exact .tup (same_T s h) (dps_of s r e1)
  | _, _, _, .box, e => by rw [toPy] at e; cases e
  | _, _, _, .obj _ _ _ _, e => by rw [toPy] at e; cases e
  | _, _, _, .dct _ _, e => by rw [toPy] at e; cases e
  | _, _, _, .cel _, e => by rw [toPy] at e; cases e
theorem dps_of {g : G} {F : FH} {H : Hp} (s : Same F H) : ∀ {v : List V} {d : List D} {p : List PyData}, DRs g F v d → toPys d = some p → DpAll g.K H v p
  | _, _, _, .nil, e => by rw [toPys] at e; cases e; exact .nil
  | _, _, _, .cons h r, e => by
    rw [toPys] at e
    obtain ⟨p, e1, e⟩ := Option.bind_eq_some_iff.mp e
    obtain ⟨ps, e2, e⟩ := Option.bind_eq_some_iff.mp e
    cases e
    exact .cons (dp_of s h e1) (dps_of s r e2)
end
def shp (d : D) : Option PyData := (toPy d).bind fun p => if SeqAt.shaped p then some p else none
theorem shp_some {d : D} {p : PyData} (h : shp d = some p) : toPy d = some p ∧ SeqAt.shaped p = true := by
  unfold shp at h
  obtain ⟨q, e1, e2⟩ := Option.bind_eq_some_iff.mp h
  by_cases hs : SeqAt.shaped q = true
  · rw [if_pos hs] at e2; cases e2; exact ⟨e1, hs⟩
  · rw [if_neg hs] at e2; cases e2

def mulS (x : Str) (n : Nat) : Str := ⟨(List.replicate n x.cps.toList).flatten.toArray⟩
def mAdd : D → D → Option D
  | .int i, .int j => some (.int (i + j))
  | .str x, .str y => if x.length + y.length ≤ sizeN then some (.str (x ++ y)) else none
  | .tup x, .tup y => if x.length + y.length ≤ sizeN then some (.tup (x ++ y)) else none
  | .lst x, .lst y => if x.length + y.length ≤ sizeN then some (.lst (x ++ y)) else none
  | _, _ => none
def mSub : D → D → Option D
  | .int i, .int j => some (.int (i - j))
  | _, _ => none
def mMul : D → D → Option D
  | .int i, .int j => if (-(2 ^ 64) < i ∧ i < 2 ^ 64) ∨ (-(2 ^ 64) < j ∧ j < 2 ^ 64) then some (.int (i * j)) else none
  | .str x, .int n => if 0 ≤ n ∧ n < 2 ^ 30 ∧ x.length * n.toNat ≤ sizeN then some (.str (mulS x n.toNat)) else none
  | .lst x, .int n => if 0 ≤ n ∧ n < 2 ^ 30 ∧ x.length * n.toNat ≤ sizeN then some (.lst (List.replicate n.toNat x).flatten) else none
  | _, _ => none
def mMod : D → D → Option D
  | .int i, .int j => if 0 < j then some (.int (i % j)) else none
  | _, _ => none
def mDiv : D → D → Option D
  | .int i, .int j => if 0 < j ∧ j < 1073741824 then some (.int (i / j)) else none
  | _, _ => none
def mPow : D → D → Option D
  | .int i, .int j => if 0 ≤ j ∧ j ≤ 1000000 ∧ i.natAbs < 2 ^ 64 then some (.int (i ^ j.toNat)) else none
  | _, _ => none
def mI (f : Int → Int → Bool) : D → D → Option D
  | .int i, .int j => some (.bl (f i j))
  | _, _ => none
def mLt : D → D → Option D
  | .int i, .int j => some (.bl (decide (i < j)))
  | .str x, .str y => some (.bl (decide (x.cps.toList < y.cps.toList)))
  | _, _ => none
def eqB : D → D → Option Bool
  | .int i, .int j => some (decide (i = j))
  | .str i, .str j => some (decide (i = j))
  | .bl i, .bl j => some (decide (i = j))
  | d, e => (shp d).bind fun p => (shp e).bind fun q => some (PyData.eqv p q)
def mEq (d e : D) : Option D := (eqB d e).map .bl
def mNe (d e : D) : Option D := (eqB d e).map fun b => .bl (!b)
def isNon : D → Bool
  | .non => true
  | _ => false
def mIs : D → D → Option D
  | d, .non => some (.bl (isNon d))
  | _, _ => none
section
variable {X : Cx} {g : G}
theorem here {F : FH} {H : Hp} {w : Bx} {v : V} {d : D} {Q : VK} (s : Same F H) (b : BxOk g F w H) (r : DR g F v d) (q : ∀ v H' F', Ext g F H F' H' w → DR g F' v d → Q v H') : Q v H := q v H F (Ext.refl s b) r
/-- the rule of a new list, of a new tuple -/
theorem lay_l {F : FH} {H : Hp} {w : Bx} {vs : List V} {ds : List D} {Q : VK} (s : Same F H) (b : BxOk g F w H) (r : DRs g F vs ds) (q : ∀ v H' F', Ext g F H F' H' w → DR g F' v (.lst ds) → Q v H') : ∀ p, H p = none → Q (.ref p) (upd H p (.lst vs)) := fun p np =>
  q _ _ _ (Ext.lay s b np) (.lst upd_same (r.mono (Ext.lay s b np).ff))
theorem lay_t {F : FH} {H : Hp} {w : Bx} {vs : List V} {ds : List D} {Q : VK} (s : Same F H) (b : BxOk g F w H) (r : DRs g F vs ds) (q : ∀ v H' F', Ext g F H F' H' w → DR g F' v (.tup ds) → Q v H') : ∀ p, H p = none → Q (.ref p) (upd H p (.tup vs)) := fun p np =>
  q _ _ _ (Ext.lay s b np) (.tup (.inl (.inl upd_same)) (r.mono (Ext.lay s b np).ff))
def rAdd4 (K : PySem.W.Frag) : R2 := fun x y H Q => (∃ i j, x = .int i ∧ y = .int j ∧ Q (.int (i + j)) H) ∨ (∃ i j, x = .str i ∧ y = .str j ∧ i.length + j.length ≤ sizeLine ∧ Q (.str (i ++ j)) H) ∨ rCatA K x y H Q ∨ rCat x y H Q
theorem op_addX : OpR X (binaryOp .Add) (rAdd4 X.K) := OpR.or op_add (OpR.or op_add_str (OpR.or op_catA op_cat))
theorem od_add (hK : g.K = X.K) : OpD g (rAdd4 X.K) mAdd := by
  intro F H w x y d e z Q s b rx ry hz q
  rw [← hK]
  cases rx with
  | int i =>
    cases ry with
    | int j => cases hz; exact .inl ⟨i, j, rfl, rfl, here s b (.int _) q⟩
    | _ => cases hz
  | str i =>
    cases ry with
    | str j =>
      unfold mAdd at hz
      by_cases hl : i.length + j.length ≤ sizeN
      · simp only [if_pos hl] at hz; cases hz; exact .inr (.inl ⟨i, j, rfl, rfl, hl, here s b (.str _) q⟩)
      · simp only [if_neg hl] at hz; cases hz
    | _ => cases hz
  | @tup a xs ds h r =>
    cases ry with
    | @tup a2 ys es h2 r2 =>
      unfold mAdd at hz
      by_cases hl : ds.length + es.length ≤ sizeN
      · simp only [if_pos hl] at hz; cases hz
        refine .inr (.inr (.inl ⟨_, _, xs, ys, rfl, rfl, same_T s h, same_T s h2, by rw [r.length, r2.length]; exact hl, fun e0 => ?_, fun _ e0 => ?_, fun _ _ => lay_t s b (r.append r2) q⟩))
        · subst e0; cases r; exact here s b (.tup h2 r2) q
        · subst e0; cases r2; rw [List.append_nil] at q; exact here s b (.tup h r) q
      · simp only [if_neg hl] at hz; cases hz
    | _ => cases hz
  | @lst a xs ds h r =>
    cases ry with
    | @lst a2 ys es h2 r2 =>
      unfold mAdd at hz
      by_cases hl : ds.length + es.length ≤ sizeN
      · simp only [if_pos hl] at hz; cases hz
        exact .inr (.inr (.inr ⟨_, _, xs, ys, rfl, rfl, s _ _ h, s _ _ h2, by rw [r.length, r2.length]; exact hl, lay_l s b (r.append r2) q⟩))
      · simp only [if_neg hl] at hz; cases hz
    | _ => cases hz
  | _ => cases hz
theorem od_I0 {f : Int → Int → Int} {m : D → D → Option D} (hm : ∀ d e z, m d e = some z → ∃ i j, d = .int i ∧ e = .int j ∧ z = .int (f i j)) : OpD g (rI0 fun i j => .int (f i j)) m := by
  intro F H w x y d e z Q s b rx ry hz q
  obtain ⟨i, j, rfl, rfl, rfl⟩ := hm d e z hz
  cases rx; cases ry
  exact ⟨i, j, rfl, rfl, here s b (.int _) q⟩
theorem od_I {C : Int → Int → Prop} {f : Int → Int → Int} {m : D → D → Option D} (hm : ∀ d e z, m d e = some z → ∃ i j, d = .int i ∧ e = .int j ∧ C i j ∧ z = .int (f i j)) : OpD g (rI C fun i j => .int (f i j)) m := by
  intro F H w x y d e z Q s b rx ry hz q
  obtain ⟨i, j, rfl, rfl, hc, rfl⟩ := hm d e z hz
  cases rx; cases ry
  exact ⟨i, j, rfl, rfl, hc, here s b (.int _) q⟩
theorem od_sub : OpD g (rI0 fun i j => .int (i - j)) mSub := od_I0 fun d e z h => by
  unfold mSub at h
  split at h
  · cases h; exact ⟨_, _, rfl, rfl, rfl⟩
  · cases h
theorem od_mod : OpD g (rI (fun _ j => 0 < j) fun i j => .int (i % j)) mMod := od_I fun d e z h => by
  unfold mMod at h
  split at h
  · split at h
    · cases h; exact ⟨_, _, rfl, rfl, by assumption, rfl⟩
    · cases h
  · cases h
theorem od_div : OpD g (rI CDiv fun i j => .int (i / j)) mDiv := od_I fun d e z h => by
  unfold mDiv at h
  split at h
  · split at h
    · cases h; exact ⟨_, _, rfl, rfl, by assumption, rfl⟩
    · cases h
  · cases h
theorem od_pow : OpD g (rI CPow fun i j => .int (i ^ j.toNat)) mPow := od_I fun d e z h => by
  unfold mPow at h
  split at h
  · split at h
    · cases h; exact ⟨_, _, rfl, rfl, by assumption, rfl⟩
    · cases h
  · cases h
theorem foldl_app : ∀ (l : List (Array Nat)) (a : Array Nat), (l.foldl (· ++ ·) a).toList = a.toList ++ (l.map Array.toList).flatten
  | [], a => by simp
  | x :: l, a => by rw [List.foldl_cons, foldl_app l]; simp
theorem txt_mul (x : Str) (n : Int) (h : 0 ≤ n) : Txt.mul x n = mulS x n.toNat := by
  unfold Txt.mul mulS
  by_cases h1 : n < 1
  · rw [if_pos h1]
    have : n.toNat = 0 := by omega
    rw [this]; rfl
  · rw [if_neg h1]
    by_cases h2 : (n == 1 || x.length == 0) = true
    · rw [if_pos h2]
      obtain ⟨cs⟩ := x
      rcases Bool.or_eq_true_iff.mp h2 with h3 | h3
      · have : n = 1 := by simpa using h3
        subst this
        simp
      · have h4 : cs.size = 0 := by simpa [Str.length] using h3
        have h5 : cs = #[] := Array.size_eq_zero_iff.mp h4
        subst h5
        simp
    · rw [if_neg h2]
      congr 1
      apply Array.toList_inj.mp
      rw [foldl_app]
      simp
def rMulS : R2 := fun x y H Q => ∃ (i : Str) (n : Int), x = .str i ∧ y = .int n ∧ 0 ≤ n ∧ n < 2 ^ 30 ∧ i.length * n.toNat ≤ sizeLine ∧ Q (.str (mulS i n.toNat)) H
theorem op_mulS : OpR X (binaryOp .Mult) rMulS := by
  intro pins s σ H x y v u Q I rx ry h
  obtain ⟨i, n, rfl, rfl, h0, h1, hl, q⟩ := h
  obtain ⟨t, rfl⟩ := rx
  obtain ⟨t', rfl⟩ := ry
  refine SB.mul ⟨?_, fun hn _ => ?_, fun hn _ => ?_⟩ fun t' k => ⟨.str _, H, I.tok k, ⟨t', by rw [txt_mul i n h0]⟩, q⟩
  · rw [decide_eq_false (by omega), decide_eq_false (by omega)]; rfl
  · have hs : sizeLine = 16777216 := rfl
    rw [hs] at hl
    intro hc
    have h3 : (i.length : Int) ≤ 16777216 := by
      have : 1 ≤ n.toNat := by omega
      have : i.length * 1 ≤ i.length * n.toNat := Nat.mul_le_mul_left _ this
      omega
    have h4 : (2 ^ 63 - 1) / (2 ^ 30 : Int) ≤ (2 ^ 63 - 1) / n := by
      have hn0 : (0 : Int) < n := by omega
      rw [Int.le_ediv_iff_mul_le hn0]
      have : (2 ^ 63 - 1) / (2 ^ 30 : Int) = 8589934591 := by decide
      rw [this]
      omega
    have : (2 ^ 63 - 1) / (2 ^ 30 : Int) = 8589934591 := by decide
    omega
  · unfold Builtin.Str.tooLong
    have hs : sizeLine = 16777216 := rfl
    simp only [decide_eq_false_iff_not]
    omega
def rMul3 : R2 := fun x y H Q => rI CMul (fun i j => .int (i * j)) x y H Q ∨ rMulS x y H Q ∨ rRep x y H Q
theorem op_mulX : OpR X (binaryOp .Mult) rMul3 := OpR.or op_mul (OpR.or op_mulS op_rep)
theorem DRs.flat {g : G} {F : FH} {vs : List V} {ds : List D} (r : DRs g F vs ds) : ∀ n : Nat, DRs g F (List.replicate n vs).flatten (List.replicate n ds).flatten
  | 0 => .nil
  | n + 1 => by rw [List.replicate_succ, List.replicate_succ, List.flatten_cons, List.flatten_cons]; exact r.append (DRs.flat r n)
theorem od_mul : OpD g rMul3 mMul := by
  intro F H w x y d e z Q s b rx ry hz q
  cases rx with
  | int i =>
    cases ry with
    | int j =>
      unfold mMul at hz
      by_cases hl : (-(2 ^ 64) < i ∧ i < 2 ^ 64) ∨ (-(2 ^ 64) < j ∧ j < 2 ^ 64)
      · simp only [if_pos hl] at hz; cases hz; exact .inl ⟨i, j, rfl, rfl, hl, here s b (.int _) q⟩
      · simp only [if_neg hl] at hz; cases hz
    | _ => cases hz
  | str i =>
    cases ry with
    | int j =>
      unfold mMul at hz
      by_cases hl : 0 ≤ j ∧ j < 2 ^ 30 ∧ i.length * j.toNat ≤ sizeN
      · simp only [if_pos hl] at hz; cases hz; exact .inr (.inl ⟨i, j, rfl, rfl, hl.1, hl.2.1, hl.2.2, here s b (.str _) q⟩)
      · simp only [if_neg hl] at hz; cases hz
    | _ => cases hz
  | @lst a xs ds h r =>
    cases ry with
    | int j =>
      unfold mMul at hz
      by_cases hl : 0 ≤ j ∧ j < 2 ^ 30 ∧ ds.length * j.toNat ≤ sizeN
      · simp only [if_pos hl] at hz; cases hz
        exact .inr (.inr ⟨_, j, xs, rfl, rfl, s _ _ h, by omega, by omega, by rw [r.length]; exact hl.2.2, lay_l s b (r.flat _) q⟩)
      · simp only [if_neg hl] at hz; cases hz
    | _ => cases hz
  | _ => cases hz
theorem od_B0 {f : Int → Int → Bool} : OpD g (rI0 fun i j => .bl (f i j)) (mI f) := by
  intro F H w x y d e z Q s b rx ry hz q
  unfold mI at hz
  split at hz
  · cases hz; cases rx; cases ry; exact ⟨_, _, rfl, rfl, here s b (.bl _) q⟩
  · cases hz
def rLt2 : R2 := fun x y H Q => rI0 (fun i j => .bl (decide (i < j))) x y H Q ∨ (∃ i j, x = .str i ∧ y = .str j ∧ Q (.bl (decide (i.cps.toList < j.cps.toList))) H)
theorem op_ltX : OpR X (compareOp .Lt) rLt2 := OpR.or op_lt op_lt_str
theorem od_lt : OpD g rLt2 mLt := by
  intro F H w x y d e z Q s b rx ry hz q
  unfold mLt at hz
  split at hz
  · cases hz; cases rx; cases ry; exact .inl ⟨_, _, rfl, rfl, here s b (.bl _) q⟩
  · cases hz; cases rx; cases ry; exact .inr ⟨_, _, rfl, rfl, here s b (.bl _) q⟩
  · cases hz
def rEq2 (K : PySem.W.Frag) : R2 := fun x y H Q => rEq x y H Q ∨ rEqD K x y H Q
def rNe2 (K : PySem.W.Frag) : R2 := fun x y H Q => rNe x y H Q ∨ rNeD K x y H Q
theorem op_eqX (hu : X.A.units + 64 < cLine) : OpR X (compareOp .Eq) (rEq2 X.K) := OpR.or op_eq (op_eqD hu)
theorem op_neX (hu : X.A.units + 64 < cLine) : OpR X (compareOp .NotEq) (rNe2 X.K) := OpR.or op_ne (op_neD hu)
theorem eq_cases {F : FH} {H : Hp} {x y : V} {d e : D} {b : Bool} (s : Same F H) (rx : DR g F x d) (ry : DR g F y e) (h : eqB d e = some b) :
    (scal x y = true ∧ b = decide (x = y)) ∨ ∃ p q, Dp g.K H x p ∧ Dp g.K H y q ∧ SeqAt.shaped p = true ∧ SeqAt.shaped q = true ∧ b = PyData.eqv p q := by
  have gen : ∀ {d e : D}, DR g F x d → DR g F y e → ((shp d).bind fun p => (shp e).bind fun q => some (PyData.eqv p q)) = some b →
      ∃ p q, Dp g.K H x p ∧ Dp g.K H y q ∧ SeqAt.shaped p = true ∧ SeqAt.shaped q = true ∧ b = PyData.eqv p q := fun rx ry h => by
    obtain ⟨p, e1, h⟩ := Option.bind_eq_some_iff.mp h
    obtain ⟨q, e2, h⟩ := Option.bind_eq_some_iff.mp h
    cases h
    obtain ⟨a1, a2⟩ := shp_some e1
    obtain ⟨b1, b2⟩ := shp_some e2
    exact ⟨p, q, dp_of s rx a1, dp_of s ry b1, a2, b2, rfl⟩
  unfold eqB at h
  split at h
  · cases h; cases rx; cases ry; exact .inl ⟨rfl, by simp⟩
  · cases h; cases rx; cases ry; exact .inl ⟨rfl, by simp⟩
  · cases h; cases rx; cases ry; exact .inl ⟨rfl, by simp⟩
  · exact .inr (gen rx ry h)
theorem od_eq (hK : g.K = X.K) : OpD g (rEq2 X.K) mEq := by
  intro F H w x y d e z Q s b rx ry hz q
  rw [← hK]
  obtain ⟨k, e1, e2⟩ := Option.map_eq_some_iff.mp hz
  subst e2
  rcases eq_cases s rx ry e1 with ⟨h1, h2⟩ | ⟨p, r, h1, h2, h3, h4, h5⟩
  · subst h2; exact .inl ⟨h1, here s b (.bl _) q⟩
  · subst h5; exact .inr ⟨p, r, h1, h2, h3, h4, here s b (.bl _) q⟩
theorem od_ne (hK : g.K = X.K) : OpD g (rNe2 X.K) mNe := by
  intro F H w x y d e z Q s b rx ry hz q
  rw [← hK]
  obtain ⟨k, e1, e2⟩ := Option.map_eq_some_iff.mp hz
  subst e2
  rcases eq_cases s rx ry e1 with ⟨h1, h2⟩ | ⟨p, r, h1, h2, h3, h4, h5⟩
  · subst h2; exact .inl ⟨h1, here s b (.bl _) q⟩
  · subst h5; exact .inr ⟨p, r, h1, h2, h3, h4, here s b (.bl _) q⟩
theorem isNon_dec {F : FH} {x : V} {d : D} (r : DR g F x d) : isNon d = decide (x = .non) := by
  cases r <;> simp [isNon]
theorem od_is : OpD g (fun x y H Q => y = .non ∧ Q (.bl (decide (x = .non))) H) mIs := by
  intro F H w x y d e z Q s b rx ry hz q
  unfold mIs at hz
  split at hz
  · cases hz; cases ry; rw [isNon_dec rx] at q; exact ⟨rfl, here s b (.bl _) q⟩
  · cases hz
end
end Y
namespace Y
open PySem PySem.Spec PyProof.Rows L2
def mIx : D → D → Option D
  | .lst ds, .int i => atI ds i
  | .tup ds, .int i => atI ds i
  | .str z, .int i => if z.length ≤ sizeN then (atI z.cps.toList i).map fun c => .str ⟨#[c]⟩ else none
  | _, _ => none
theorem DRs.atI {g : G} {F : FH} {vs : List V} {ds : List D} {i : Int} {d : D} (r : DRs g F vs ds) (h : L2.atI ds i = some d) : ∃ v, L2.atI vs i = some v ∧ DR g F v d := by
  unfold L2.atI at h ⊢
  rw [r.length]
  cases e : ixN ds.length i with
  | none => rw [e] at h; cases h
  | some j => rw [e] at h; exact r.get h
section
variable {X : Cx} {g : G} {E : EK} {e a b c : Expr} {es : List Expr} {pos p p2 : Pos} {fa fb f : EM} {fs : AM} {lo hi : Option Expr} {x : Str} {id T : String}
theorem od_ix (hK : g.K = X.K) : OpD g (rIx X.K) mIx := by
  intro F H w x y d e z Q s b rx ry hz q
  rw [← hK]
  cases rx with
  | @lst a xs ds h r =>
    cases ry with
    | int j =>
      obtain ⟨v, e1, e2⟩ := r.atI (i := j) hz
      exact .inl ⟨_, xs, j, v, rfl, rfl, .inl (.inl (s _ _ h)), e1, here s b e2 q⟩
    | _ => cases hz
  | @tup a xs ds h r =>
    cases ry with
    | int j =>
      obtain ⟨v, e1, e2⟩ := r.atI (i := j) hz
      exact .inr (.inl ⟨_, xs, j, v, rfl, rfl, same_T s h, e1, here s b e2 q⟩)
    | _ => cases hz
  | str i =>
    cases ry with
    | int j =>
      unfold mIx at hz
      by_cases hl : i.length ≤ sizeN
      · simp only [if_pos hl] at hz
        obtain ⟨c, e1, e2⟩ := Option.map_eq_some_iff.mp hz
        subst e2
        exact .inr (.inr ⟨i, j, c, rfl, rfl, hl, e1, here s b (.str _) q⟩)
      · simp only [if_neg hl] at hz; cases hz
    | _ => cases hz
  | _ => cases hz
theorem de_ix (hK : g.K = X.K) (ha : DE X g E a fa) (hb : DE X g E b fb) (hs : PlainIx b := by exact fun _ _ => rfl) : DE X g E (.Subscript a b pos) (eBin mIx fa fb) := by
  obtain ⟨ta, pa, ra⟩ := ha.run
  obtain ⟨tb, pb, rb⟩ := hb.run
  exact ⟨_, pe_ix ix_seq pa pb hs, bin_run (od_ix hK) ra rb⟩
structure DP (X : Cx) (g : G) (E : EK) (e : Option Expr) (f : SL → Bx → R (Option Int)) : Prop where
  run : ∃ t, PO X e t ∧ ∀ σ H (Q : Option Int → Hp → Prop) F S w, Rel g F w S σ H → PostG g F H (E σ) (fun o w' => ∀ H' F', Ext g F H F' H' w' → Q o H') (f S w) → t σ H Q
def pNone : SL → Bx → R (Option Int) := fun _ w => .ok none w
def pSome (f : EM) : SL → Bx → R (Option Int) := fun S w => (f S w).bind fun d w1 => match d with
  | .int i => .ok (some i) w1
  | _ => .bad
theorem dp_none : DP X g E none pNone := ⟨_, po_none, fun σ H Q F S w R h => h H F R.ex⟩
theorem dp_some (h : DE X g E e f) : DP X g E (some e) (pSome f) := by
  obtain ⟨t, p, r⟩ := h.run
  refine ⟨_, po_some p, fun σ H Q F S w R h => ?_⟩
  refine r σ H _ F S w R (PostG.imp (PostG.bind h) fun d w1 _ h1 v H1 F1 x1 r1 => ?_)
  cases r1 with
  | int i => exact ⟨i, rfl, h1 H1 F1 x1⟩
  | _ => exact h1.elim
def cut {α : Type} (xs : List α) (lo hi : Option Int) : List α := (xs.drop (HT.sIx xs.length 0 lo)).take (HT.sIx xs.length xs.length hi - HT.sIx xs.length 0 lo)
def mSl : D → Option Int → Option Int → Option D
  | .lst ds, lo, hi => some (.lst (cut ds lo hi))
  | .tup ds, lo, hi => some (.tup (cut ds lo hi))
  | .str z, lo, hi => if z.length ≤ sizeN then some (.str (cutS z lo hi)) else none
  | _, _, _ => none
def eSl (f : EM) (l h : SL → Bx → R (Option Int)) : EM := fun S w => (f S w).bind fun d w1 => (l S w1).bind fun lo w2 => (h S w2).bind fun hi w3 => R.ofO (mSl d lo hi) w3
theorem DRs.cut {F : FH} {vs : List V} {ds : List D} (r : DRs g F vs ds) (lo hi : Option Int) : DRs g F (cutV vs lo hi) (Y.cut ds lo hi) := by
  unfold cutV Y.cut
  rw [r.length]
  exact (r.drop _).take _
theorem cut_all {α : Type} {xs : List α} {lo hi : Option Int} (h : HT.sIx xs.length 0 lo = 0 ∧ HT.sIx xs.length xs.length hi = xs.length) : cut xs lo hi = xs := by
  unfold cut
  rw [h.1, h.2]
  simp
def rSl3 (K : PySem.W.Frag) : V → Option Int → Option Int → Hp → VK → Prop := fun x lo hi H Q => rSlL K x lo hi H Q ∨ rSlA K x lo hi H Q ∨ rSlS x lo hi H Q
theorem sl_X : SlR X (rSl3 X.K) := SlR.or sl_list (SlR.or sl_tupA sl_str)
variable {fl fh : SL → Bx → R (Option Int)}
theorem de_slice (hK : g.K = X.K) (ha : DE X g E a fa) (hl : DP X g E lo fl) (hh : DP X g E hi fh) : DE X g E (.Subscript a (.Slice lo hi none p2) pos) (eSl fa fl fh) := by
  obtain ⟨ta, pa, ra⟩ := ha.run
  obtain ⟨tl, pl, rl⟩ := hl.run
  obtain ⟨th, ph, rh⟩ := hh.run
  refine ⟨_, pe_slice sl_X pa pl ph, fun σ H Q F S w R h => ?_⟩
  refine ra σ H _ F S w R (PostG.imp (PostG.bind h) fun d w1 _ h1 v H1 F1 x1 r1 => ?_)
  refine rl σ H1 _ F1 S w1 (R.ext x1) (PostG.ext x1 (PostG.bind h1) fun l w2 h2 H2 F2 x2 => ?_)
  have x12 := x1.trans x2
  refine rh σ H2 _ F2 S w2 (R.ext x12) (PostG.ext x12 (PostG.bind h2) fun u w3 h3 H3 F3 x3 => ?_)
  have x13 := x12.trans x3
  obtain ⟨z, hz, q⟩ := post_ofO h3
  have q' : ∀ v H' F', Ext g F3 H3 F' H' w3 → DR g F' v z → Q v H' := fun v' H' F' x4 r4 => q v' H' F' (x13.trans x4) r4
  have r3 := r1.mono (x2.trans x3).ff
  rw [← hK]
  cases r3 with
  | @lst a xs ds h r =>
    cases hz
    exact .inl ⟨_, xs, rfl, .inl (.inl (x3.sub _ _ h)), lay_l x3.sub x3.bx (r.cut l u) q'⟩
  | @tup a xs ds h r =>
    cases hz
    refine .inr (.inl ⟨_, xs, rfl, same_T x3.sub h, fun he => ?_, fun _ => lay_t x3.sub x3.bx (r.cut l u) q'⟩)
    rw [r.length] at he
    rw [cut_all he] at q'
    exact here x3.sub x3.bx (.tup h r) q'
  | str i =>
    unfold mSl at hz
    by_cases hl : i.length ≤ sizeN
    · simp only [if_pos hl] at hz; cases hz
      exact .inr (.inr ⟨i, rfl, hl, here x3.sub x3.bx (.str _) q'⟩)
    · simp only [if_neg hl] at hz; cases hz
  | _ => cases hz
def CallD (g : G) (r : List V → Hp → VK → Prop) (m : List D → Option D) : Prop := ∀ (F : FH) (H : Hp) (w : Bx) (vs : List V) (ds : List D) (z : D) (Q : VK), Same F H → BxOk g F w H → DRs g F vs ds → m ds = some z →
  (∀ v H' F', Ext g F H F' H' w → DR g F' v z → Q v H') → r vs H Q
def eB (m : List D → Option D) (fs : AM) : EM := fun S w => (fs S w).bind fun ds w1 => R.ofO (m ds) w1
variable {r : List V → Hp → VK → Prop} {m : List D → Option D} {mo : List D → Option (List D)}
theorem cb_run {ta : TA} (hm : CallD g r m) (ra : ∀ σ H Q F S w, Rel g F w S σ H → PostA g F H Q (E σ) (fs S w) → ta σ H Q) : ∀ σ H Q F S w, Rel g F w S σ H → Post g F H Q (E σ) (eB m fs S w) → tCB r ta σ H Q := by
  intro σ H Q F S w R h
  refine ra σ H _ F S w R (PostG.imp (PostG.bind h) fun ds w1 _ h1 vs H1 F1 x1 r1 => ?_)
  obtain ⟨z, hz, q⟩ := post_ofO h1
  exact hm F1 H1 w1 vs ds z Q x1.sub x1.bx r1 hz fun v' H' F' x2 r2 => q v' H' F' (x1.trans x2) r2
theorem de_callB (hc : CallR X (.builtin id) r) (hd : CallD g r m) (hm : X.mg x = none) (hv : bootBuiltins x = some (.builtin id)) (ha : DA X g E (e :: es) fs) (hg : Gl X x := by rfl) (hn : x ≠ "__name__" := by decide) (hdb : (x == ("__debug__" : Str)) = false := by decide)
    (he : starEach (e :: es) X.env = (false, eval e X.env) :: starEach es X.env := by rfl) (hpl : (backTo pos (starEach es X.env)).any (·.1) = false := by rfl) : DE X g E (.Call (.Name x p) (e :: es) [] pos) (eB m fs) := by
  obtain ⟨ta, pa, ra⟩ := ha.run
  exact ⟨_, pe_callB hc hg hm hv pa hn hdb he hpl, cb_run hd ra⟩
theorem drs1 {F : FH} {vs : List V} {d : D} (r : DRs g F vs [d]) : ∃ v, vs = [v] ∧ DR g F v d := by
  cases r with
  | cons h r => cases r; exact ⟨_, rfl, h⟩
theorem drs2 {F : FH} {vs : List V} {d e : D} (r : DRs g F vs [d, e]) : ∃ v u, vs = [v, u] ∧ DR g F v d ∧ DR g F u e := by
  cases r with
  | cons h r => obtain ⟨u, rfl, h2⟩ := drs1 r; exact ⟨_, u, rfl, h, h2⟩
def mLen : List D → Option D
  | [.lst ds] => some (.int (ds.length : Int))
  | [.tup ds] => some (.int (ds.length : Int))
  | [.str z] => if z.length ≤ sizeN then some (.int (z.length : Int)) else none
  | _ => none
theorem cd_len (hK : g.K = X.K) : CallD g (fun xs H Q => ∃ x n, xs = [x] ∧ LenV X.K x H n ∧ Q (.int (n : Int)) H) mLen := by
  intro F H w vs ds z Q s b r hz q
  rw [← hK]
  unfold mLen at hz
  split at hz
  · cases hz
    obtain ⟨v, rfl, h⟩ := drs1 r
    cases h with
    | lst h r => exact ⟨_, _, rfl, .inl ⟨_, .inl (.inl (s _ _ h)), rfl⟩, by rw [r.length]; exact here s b (.int _) q⟩
  · cases hz
    obtain ⟨v, rfl, h⟩ := drs1 r
    cases h with
    | tup h r => exact ⟨_, _, rfl, .inr ⟨_, same_T s h, rfl⟩, by rw [r.length]; exact here s b (.int _) q⟩
  · rename_i y
    obtain ⟨v, rfl, h⟩ := drs1 r
    cases h
    by_cases hl : y.length ≤ sizeN
    · simp only [if_pos hl] at hz; cases hz; exact ⟨_, _, rfl, ⟨hl, rfl⟩, here s b (.int _) q⟩
    · simp only [if_neg hl] at hz; cases hz
  · cases hz
theorem de_len (hK : g.K = X.K) (hm : X.mg "len" = none) (ha : DA X g E (e :: es) fs) (hg : Gl X "len" := by rfl)
    (he : starEach (e :: es) X.env = (false, eval e X.env) :: starEach es X.env := by rfl) (hpl : (backTo pos (starEach es X.env)).any (·.1) = false := by rfl) : DE X g E (.Call (.Name "len" p) (e :: es) [] pos) (eB mLen fs) :=
  de_callB call_len (cd_len hK) hm PySem.boot_len ha hg (by decide) (by decide) he hpl
def blsOf : List D → Option (List Bool)
  | [] => some []
  | .bl b :: ds => (blsOf ds).map (b :: ·)
  | _ => none
theorem bls_of {F : FH} : ∀ {vs : List V} {ds : List D} {bs : List Bool}, DRs g F vs ds → blsOf ds = some bs → vs = bs.map V.bl
  | _, _, _, .nil, h => by cases h; rfl
  | _, _, bs, .cons h r, e => by
    cases h with
    | bl b =>
      rw [blsOf] at e
      obtain ⟨cs, e1, e2⟩ := Option.map_eq_some_iff.mp e
      subst e2
      rw [bls_of r e1]; rfl
    | _ => cases e
def mAll : List D → Option D
  | [.lst ds] => (blsOf ds).map fun bs => .bl (bs.all _root_.id)
  | _ => none
theorem cd_all (hK : g.K = X.K) : CallD g (rAll X.K) mAll := by
  intro F H w vs ds z Q s b r hz q
  rw [← hK]
  unfold mAll at hz
  split at hz
  · obtain ⟨bs, e1, e2⟩ := Option.map_eq_some_iff.mp hz
    subst e2
    obtain ⟨v, rfl, h⟩ := drs1 r
    cases h with
    | lst h r =>
      have e := bls_of r e1
      subst e
      exact ⟨_, bs, rfl, .inl (.inl (s _ _ h)), here s b (.bl _) q⟩
  · cases hz
theorem de_all (hK : g.K = X.K) (hcm : X.calm = true) (hm : X.mg "all" = none) (ha : DA X g E (e :: es) fs) (hg : Gl X "all" := by rfl)
    (he : starEach (e :: es) X.env = (false, eval e X.env) :: starEach es X.env := by rfl) (hpl : (backTo pos (starEach es X.env)).any (·.1) = false := by rfl) : DE X g E (.Call (.Name "all" p) (e :: es) [] pos) (eB mAll fs) :=
  de_callB (cr_all hcm) (cd_all hK) hm (by decide +kernel) ha hg (by decide) (by decide) he hpl
def tyN : D → Option String
  | .non => some "NoneType"
  | .bl _ => some "bool"
  | .int _ => some "int"
  | .str _ => some "str"
  | .lst _ => some "list"
  | .tup _ => some "tuple"
  | _ => none
def isSub (a T : String) : Bool := a == T || (a == "bool" && T == "int")
def mIsi (T : String) : D → Option D := fun d => (tyN d).map fun a => .bl (isSub a T)
def e1 (m : D → Option D) (f : EM) : EM := fun S w => (f S w).bind fun d w1 => R.ofO (m d) w1
theorem ty_of {F : FH} {H : Hp} {v : V} {d : D} {a : String} (s : Same F H) (r : DR g F v d) (h : tyN d = some a) : TyX g.K H v (.type a) := by
  cases r with
  | non => cases h; exact .base .non
  | bl b => cases h; exact .base (.bl b)
  | int b => cases h; exact .base (.int b)
  | str b => cases h; exact .base (.str b)
  | lst q r => cases h; exact .base (.lst (s _ _ q))
  | tup q r =>
    cases h
    rcases q with (q | ⟨o, q⟩) | ⟨o, its, n, q, c, _⟩
    · exact .base (.tup (s _ _ q))
    · exact .fTuple (s _ _ q)
    · exact .kTuple q c
  | _ => cases h
def kitOk (T : String) : Prop := ∀ a ∈ ["NoneType", "bool", "int", "str", "list", "tuple"], kitB a T = some (isSub a T)
theorem tyN_mem {d : D} {a : String} (h : tyN d = some a) : a ∈ ["NoneType", "bool", "int", "str", "list", "tuple"] := by
  cases d <;> simp [tyN] at h <;> subst h <;> simp
theorem kit_bool : kitOk "bool" := by unfold kitOk; decide +kernel
theorem kit_int : kitOk "int" := by unfold kitOk; decide +kernel
theorem kit_str : kitOk "str" := by unfold kitOk; decide +kernel
theorem kit_list : kitOk "list" := by unfold kitOk; decide +kernel
theorem kit_tuple : kitOk "tuple" := by unfold kitOk; decide +kernel
theorem de_isi {N : Str} {p3 : Pos} (hK : g.K = X.K) (kt : kitOk T) (hmN : X.mg N = none) (hvN : bootBuiltins N = some (.type T)) (hm : X.mg "isinstance" = none) (ha : DE X g E e f) (hgN : Gl X N := by rfl) (hg : Gl X "isinstance" := by rfl) (hnN : N ≠ "__name__" := by decide) (hdN : (N == ("__debug__" : Str)) = false := by decide)
    (he : starEach [e, .Name N p3] X.env = (false, eval e X.env) :: starEach [.Name N p3] X.env := by rfl) (he2 : starEach [.Name N p3] X.env = (false, eval (.Name N p3) X.env) :: starEach [] X.env := by rfl) (hpl : (backTo pos (starEach [.Name N p3] X.env)).any (·.1) = false := by rfl) :
    DE X g E (.Call (.Name "isinstance" p) [e, .Name N p3] [] pos) (e1 (mIsi T) f) := by
  obtain ⟨ta, pa, ra⟩ := ha.run
  refine ⟨_, pe_callB call_isi hg hm (by decide +kernel) (pa_cons pa (pa_cons (pe_bltn (v := .ty T) hgN hmN hvN rfl hnN hdN) pa_nil he2) he) (by decide) (by decide) he hpl, fun σ H Q F S w R h => ?_⟩
  refine ra σ H _ F S w R (PostG.imp (PostG.bind h) fun d w1 _ h1 v H1 F1 x1 r1 => ?_)
  obtain ⟨z, hz, q⟩ := post_ofO h1
  obtain ⟨a, e1, e2⟩ := Option.map_eq_some_iff.mp hz
  subst e2
  rw [← hK]
  exact ⟨v, .ty T, .type a, .type T, _, rfl, .ty T, ty_of x1.sub r1 e1, kit_ty (kt a (tyN_mem e1)), q _ H1 F1 x1 (.bl _)⟩
end
end Y
namespace Y
open PySem PySem.Spec PyProof.Rows L2
/-- the promise of a def that does m -/
def spM (K : PySem.W.Frag) (cls : CT) (n : Nat) (m : List D → Bx → R D) : Sp := fun vs H Q E => vs.length = n ∧ ∃ (bx : BQ) (F : FH) (ds : List D) (w : Bx),
  Same F H ∧ BxOk ⟨K, cls, bx⟩ F w H ∧ DRs ⟨K, cls, bx⟩ F vs ds ∧ Post ⟨K, cls, bx⟩ F H Q E (m ds w)
structure Cal (P : Program) (w : World) (K : PySem.W.Frag) (mg : Str → Option Value) (base : Heap) (cls : CT) (x : Str) (k n : Nat) (m : List D → Bx → R D) : Prop where
  ex : ∃ (f : Addr) (fd : FuncData) (ps : List Str), FnOk P w K mg base (L2N.CX P w) k f fd ps (spM K cls n m) ∧ mg x = some (.ref f) ∧ PySem.W.keepIn K (.ref f) = true ∧ Binds K fd ps []
def eCall (n : Nat) (m : List D → Bx → R D) (fs : AM) : EM := fun S w => (fs S w).bind fun ds w1 => if ds.length = n then m ds w1 else .bad
section
variable {X : Cx} {g : G} {E : EK} {e e2 a b c : Expr} {es : List Expr} {pos p p2 : Pos} {fa fb f : EM} {fs : AM} {x : Str} {k n : Nat} {m : List D → Bx → R D}
theorem call_run {E : XK} {ta : TA} (hK : g.K = X.K) (ra : ∀ σ H Q F S w, Rel g F w S σ H → PostA g F H Q E (fs S w) → ta σ H Q) : ∀ σ H Q F S w, Rel g F w S σ H → Post g F H Q E (eCall n m fs S w) → tCall (spM X.K g.cls n m) [] E ta σ H Q := by
  intro σ H Q F S w R h
  refine ra σ H _ F S w R (PostG.imp (PostG.bind h) fun ds w1 _ h1 vs H1 F1 x1 r1 => ?_)
  by_cases hl : ds.length = n
  · rw [if_pos hl] at h1
    show spM X.K g.cls n m (vs ++ []) H1 Q E
    rw [List.append_nil, ← hK]
    exact ⟨by rw [r1.length]; exact hl, g.bq, F1, ds, w1, x1.sub, x1.bx, r1, Post.of x1 h1⟩
  · rw [if_neg hl] at h1; exact h1.elim
theorem de_call {E : XK} (hK : g.K = X.K) (C : Cal X.prog X.w X.K X.mg X.base g.cls x k n m) (hr : Room k X.A) (hx : Passes (L2N.CX X.prog X.w) X E) (ha : DA X g (kE E) (e :: es) fs) (hg : Gl X x := by rfl) (hdb : (x == ("__debug__" : Str)) = false := by decide)
    (he : starEach (e :: es) X.env = (false, eval e X.env) :: starEach es X.env := by rfl) (hpl : (backTo pos (starEach es X.env)).any (·.1) = false := by rfl) : DE X g (kE E) (.Call (.Name x p) (e :: es) [] pos) (eCall n m fs) := by
  obtain ⟨f, fd, ps, F, hm, hk, hb⟩ := C.ex
  obtain ⟨ta, pa, ra⟩ := ha.run
  exact ⟨_, pe_call F hr hg hm hk hb .nil hx pa hdb he hpl, call_run hK ra⟩
def mNeg : D → Option D
  | .int i => some (.int (-i))
  | _ => none
theorem de_neg (ha : DE X g E a fa) : DE X g E (.UnaryOp .USub a pos) (e1 mNeg fa) := by
  obtain ⟨ta, pa, ra⟩ := ha.run
  refine ⟨_, pe_un un_neg pa, fun σ H Q F S w R h => ?_⟩
  refine ra σ H _ F S w R (PostG.imp (PostG.bind h) fun d w1 _ h1 v H1 F1 x1 r1 => ?_)
  obtain ⟨z, hz, q⟩ := post_ofO h1
  cases r1 with
  | int i => cases hz; exact ⟨i, rfl, q _ H1 F1 x1 (.int _)⟩
  | _ => cases hz
def MtD (g : G) (r : V → List V → Hp → VK → Prop) (m : D → D → Option D) : Prop := ∀ (F : FH) (H : Hp) (w : Bx) (x y : V) (d e z : D) (Q : VK), Same F H → BxOk g F w H → DR g F x d → DR g F y e → m d e = some z →
  (∀ v H' F', Ext g F H F' H' w → DR g F' v z → Q v H') → r x [y] H Q
def isStr : D → Bool
  | .str _ => true
  | _ => false
/-- the receiver is looked at ahead of the argument -/
def eM1 (m : D → D → Option D) (fa fb : EM) : EM := fun S w => (fa S w).bind fun d w1 => if isStr d then (fb S w1).bind fun e w2 => R.ofO (m d e) w2 else .bad
theorem de_m1 {id : String} {name : Str} {apos : Pos} {r : V → List V → Hp → VK → Prop} {m : D → D → Option D} (slot : Slot "str" name id) (ty : typeOf (.builtin id) = pure (.type "method_descriptor")) (rule : MtR X id r) (hm : MtD g r m) (ha : DE X g E a fa) (hb : DE X g E b fb)
    (hs : starEach [b] X.env = [(false, eval b X.env)] := by rfl) (hbase : attributeBase a name X.env (eval a X.env) = eval a X.env := by rfl) (hline : (apos.endLine == pos.line) = true := by rfl) :
    DE X g E (.Call (.Attribute a name apos) [b] [] pos) (eM1 m fa fb) := by
  obtain ⟨ta, pa, ra⟩ := ha.run
  obtain ⟨tb, pb, rb⟩ := hb.run
  refine ⟨_, pe_m1 slot ty rule pa pb hs hbase hline, fun σ H Q F S w R h => ?_⟩
  refine ra σ H _ F S w R (PostG.imp (PostG.bind h) fun d w1 _ h1 v H1 F1 x1 r1 => ?_)
  by_cases hd : isStr d = true
  · rw [if_pos hd] at h1
    refine ⟨?_, rb σ H1 _ F1 S w1 (R.ext x1) (PostG.ext x1 (PostG.bind h1) fun e w2 h2 u H2 F2 x2 r2 => ?_)⟩
    · cases r1 with
      | str s => exact ⟨s, rfl⟩
      | _ => cases hd
    · obtain ⟨z, hz, q⟩ := post_ofO h2
      exact hm F2 H2 w2 v u d e z Q x2.sub x2.bx (r1.mono x2.ff) r2 hz fun v' H' F' x3 r3 => q v' H' F' ((x1.trans x2).trans x3) r3
  · rw [if_neg hd] at h1; exact h1.elim
def strsOf : List D → Option (List Str)
  | [] => some []
  | .str b :: ds => (strsOf ds).map (b :: ·)
  | _ => none
theorem strs_of {F : FH} : ∀ {vs : List V} {ds : List D} {bs : List Str}, DRs g F vs ds → strsOf ds = some bs → vs = bs.map V.str
  | _, _, _, .nil, h => by cases h; rfl
  | _, _, bs, .cons h r, e => by
    cases h with
    | str b =>
      rw [strsOf] at e
      obtain ⟨cs, e1, e2⟩ := Option.map_eq_some_iff.mp e
      subst e2
      rw [strs_of r e1]; rfl
    | _ => cases e
def joinS (sep : Str) (ys : List Str) : Option D := if (ys.map (·.length)).sum + ys.length * sep.length ≤ sizeN then some (.str (Txt.join sep ys)) else none
def mJoin : D → D → Option D
  | .str s, .lst ds => (strsOf ds).bind (joinS s)
  | .str s, .tup ds => (strsOf ds).bind (joinS s)
  | _, _ => none
theorem md_join (hK : g.K = X.K) : MtD g (fun x xs H Q => ∃ a p, ∃ ys : List Str, x = .str a ∧ xs = [.ref p] ∧ (SqL X.K H p (ys.map V.str) ∨ SqT X.K H p (ys.map V.str)) ∧
    (ys.map (·.length)).sum + ys.length * a.length ≤ 16777216 ∧ Q (.str (Txt.join a ys)) H) mJoin := by
  intro F H w x y d e z Q s b rx ry hz q
  rw [← hK]
  unfold mJoin at hz
  split at hz
  · obtain ⟨ys, e1, e2⟩ := Option.bind_eq_some_iff.mp hz
    unfold joinS at e2
    split at e2
    · rename_i hl
      cases e2; cases rx
      cases ry with
      | lst h r =>
        have e := strs_of r e1; subst e
        exact ⟨_, _, ys, rfl, rfl, .inl (.inl (.inl (s _ _ h))), hl, here s b (.str _) q⟩
    · cases e2
  · obtain ⟨ys, e1, e2⟩ := Option.bind_eq_some_iff.mp hz
    unfold joinS at e2
    split at e2
    · rename_i hl
      cases e2; cases rx
      cases ry with
      | tup h r =>
        have e := strs_of r e1; subst e
        exact ⟨_, _, ys, rfl, rfl, .inr (same_T s h), hl, here s b (.str _) q⟩
    · cases e2
  · cases hz
theorem de_join {apos : Pos} (hK : g.K = X.K) (ha : DE X g E a fa) (hb : DE X g E b fb) (hs : starEach [b] X.env = [(false, eval b X.env)] := by rfl) (hbase : attributeBase a "join" X.env (eval a X.env) = eval a X.env := by rfl) (hline : (apos.endLine == pos.line) = true := by rfl) :
    DE X g E (.Call (.Attribute a "join" apos) [b] [] pos) (eM1 mJoin fa fb) := de_m1 F.slot_str_join F.type_str_join mt_join (md_join hK) ha hb hs hbase hline
def mCount : D → D → Option D
  | .str a, .str b => some (.int (Txt.count a b))
  | _, _ => none
def mRstrip : D → D → Option D
  | .str a, .str b => if a.length ≤ sizeN then some (.str (Txt.rstripChars a b)) else none
  | _, _ => none
theorem md_rstrip : MtD g (fun x xs H Q => ∃ a b, x = .str a ∧ xs = [.str b] ∧ a.length ≤ sizeLine ∧ Q (.str (Txt.rstripChars a b)) H) mRstrip := by
  intro F H w x y d e z Q s b rx ry hz q
  unfold mRstrip at hz
  split at hz
  · split at hz
    · rename_i hl; cases hz; cases rx; cases ry; exact ⟨_, _, rfl, rfl, hl, here s b (.str _) q⟩
    · cases hz
  · cases hz
theorem de_rstrip {apos : Pos} (ha : DE X g E a fa) (hb : DE X g E b fb) (hs : starEach [b] X.env = [(false, eval b X.env)] := by rfl) (hbase : attributeBase a "rstrip" X.env (eval a X.env) = eval a X.env := by rfl) (hline : (apos.endLine == pos.line) = true := by rfl) :
    DE X g E (.Call (.Attribute a "rstrip" apos) [b] [] pos) (eM1 mRstrip fa fb) := de_m1 F.slot_str_rstrip F.type_str_rstrip mt_rstripChars md_rstrip ha hb hs hbase hline
structure Yld (g : G) (F : FH) (J : It) (ds : List D) : Prop where
  go : ∀ (i : Nat) (d : D) (F2 : FH) (H2 : Hp), FSame F F2 → Same F2 H2 → ds[i]? = some d → J.go i H2 ∧ ∀ x H3, J.yld i H2 x H3 → (H3 = H2 ∧ DR g F2 x d) ∨ ∃ T xs es, x = .ref T ∧ H2 T = none ∧ H3 = upd H2 T (.tup xs) ∧ DRs g F2 xs es ∧ d = .tup es
  stop : ∀ (F2 : FH) (H2 : Hp), FSame F F2 → Same F2 H2 → J.stop ds.length H2
structure DI (X : Cx) (g : G) (E : EK) (tg iter : Expr) (f : AM) : Prop where
  run : ∃ wi, PI X tg iter wi ∧ ∀ σ H (Rq : It → Hp → Prop) F S w, Rel g F w S σ H → PostG g F H (E σ) (fun ds w' => ∀ J H' F', Ext g F H F' H' w' → Yld g F' J ds → Rq J H') (f S w) → wi σ H Rq
variable {tg : Expr}
theorem yld_list {F : FH} {a : Addr} {xs : List V} {ds : List D} (h : F a = some (.lst xs)) (r : DRs g F xs ds) : Yld g F (Itl g.K a) ds := by
  refine ⟨fun i d F2 H2 s1 s2 hd => ?_, fun F2 H2 s1 s2 => ⟨xs, .inl (.inl (s2 _ _ (s1.fz _ _ h))), by rw [r.length]; exact Nat.le_refl _⟩⟩
  obtain ⟨v, hv, rv⟩ := r.get hd
  have hs : SqL g.K H2 a xs := .inl (.inl (s2 _ _ (s1.fz _ _ h)))
  refine ⟨⟨xs, v, hs, hv⟩, fun x H3 hy => ?_⟩
  obtain ⟨e1, e2⟩ := hy
  have e3 := e2 xs hs
  rw [hv] at e3; cases e3
  exact .inl ⟨e1, rv.mono s1⟩
theorem yld_tup {F : FH} {a : Addr} {xs : List V} {ds : List D} (h : SqT g.K F a xs) (r : DRs g F xs ds) : Yld g F (Itt g.K a) ds := by
  refine ⟨fun i d F2 H2 s1 s2 hd => ?_, fun F2 H2 s1 s2 => ⟨xs, same_T s2 (same_T s1.fz h), by rw [r.length]; exact Nat.le_refl _⟩⟩
  obtain ⟨v, hv, rv⟩ := r.get hd
  have hs : SqT g.K H2 a xs := same_T s2 (same_T s1.fz h)
  refine ⟨⟨xs, v, hs, hv⟩, fun x H3 hy => ?_⟩
  obtain ⟨e1, e2⟩ := hy
  have e3 := e2 xs hs
  rw [hv] at e3; cases e3
  exact .inl ⟨e1, rv.mono s1⟩
def signs (z : Str) : List D := z.cps.toList.map fun c => .str ⟨#[c]⟩
theorem yld_str {F : FH} (z : Str) : Yld g F (Its z) (signs z) := by
  refine ⟨fun i d F2 H2 s1 s2 hd => ?_, fun F2 H2 s1 s2 => ?_⟩
  · unfold signs at hd
    rw [List.getElem?_map] at hd
    obtain ⟨c, hc, rfl⟩ := Option.map_eq_some_iff.mp hd
    have hc' : z.cps[i]? = some c := by simpa using hc
    refine ⟨(Array.getElem?_eq_some_iff.mp hc').1, fun x H3 hy => ?_⟩
    obtain ⟨e1, c2, e2, e3⟩ := hy
    rw [hc'] at e2; cases e2
    subst e3
    exact .inl ⟨e1, .str _⟩
  · show z.cps.size ≤ (signs z).length
    simp [signs]
/-- the items of a list, a tuple, a text -/
def itemsOf : D → Option (List D)
  | .lst ds => some ds
  | .tup ds => some ds
  | .str z => some (signs z)
  | _ => none
def iAny (f : EM) : AM := fun S w => (f S w).bind fun d w1 => R.ofO (itemsOf d) w1
theorem di_any (hK : g.K = X.K) (ha : DE X g E a fa) : DI X g E tg a (iAny fa) := by
  obtain ⟨ta, pa, ra⟩ := ha.run
  refine ⟨fun σ H Rq => ta σ H fun x H1 => (∃ a, x = .ref a ∧ (∃ xs, SqL X.K H1 a xs) ∧ Rq (Itl X.K a) H1) ∨ (∃ a, x = .ref a ∧ (∃ xs, SqT X.K H1 a xs) ∧ Rq (Itt X.K a) H1) ∨ (∃ z, x = .str z ∧ Rq (Its z) H1), ⟨fun pins s σ H Rq I h => ?_⟩, fun σ H Rq F S w R h => ?_⟩
  · refine thn (pa.run pins s σ H _ I h) fun v s1 ⟨x, H1, I1, r1, q1⟩ => ?_
    rcases q1 with ⟨a, e, ⟨xs, hq⟩, q⟩ | ⟨a, e, ⟨xs, hq⟩, q⟩ | ⟨z, e, q⟩
    · subst e; cases r1
      obtain ⟨_, _, p, _⟩ := I1.list hq
      exact wpAny_pyIter_list p.isList (pi_one (tk := s1.toks) I1 _ (turn_list a _) ⟨_, Heap.get?_push_size _ rfl, rfl, rfl⟩ q)
    · subst e; cases r1
      obtain ⟨_, _, p, _⟩ := I1.tuple hq
      exact wpAny_pyIter_tuple p (pi_one (tk := s1.toks) I1 _ (turn_tuple a _) ⟨_, Heap.get?_push_size _ rfl, rfl, rfl⟩ q)
    · subst e
      obtain ⟨t, rfl⟩ := r1
      cases ha : z.cps.all (· < 128)
      · exact wpAny_pyIter_wide ha (pi_one (tk := s1.toks) I1 _ (turn_str _ z t "str_iterator" (.inr rfl)) ⟨_, Heap.get?_push_size _ rfl, rfl, rfl⟩ q)
      · exact wpAny_pyIter_ascii ha (pi_one (tk := s1.toks) I1 _ (turn_str _ z t "str_ascii_iterator" (.inl rfl)) ⟨_, Heap.get?_push_size _ rfl, rfl, rfl⟩ q)
  · refine ra σ H _ F S w R (PostG.imp (PostG.bind h) fun d w1 _ h1 v H1 F1 x1 r1 => ?_)
    obtain ⟨ds, hz, q⟩ := post_ofO' h1
    rw [← hK]
    cases r1 with
    | lst h r => cases hz; exact .inl ⟨_, rfl, ⟨_, .inl (.inl (x1.sub _ _ h))⟩, q _ H1 F1 x1 (yld_list h r)⟩
    | tup h r => cases hz; exact .inr (.inl ⟨_, rfl, ⟨_, same_T x1.sub h⟩, q _ H1 F1 x1 (yld_tup h r)⟩)
    | str z => cases hz; exact .inr (.inr ⟨_, rfl, q _ H1 F1 x1 (yld_str z)⟩)
    | _ => cases hz
/-- range -/
def upFrom (lo : Int) (n : Nat) : List D := (List.range n).map fun (i : Nat) => D.int (lo + (i : Int))
theorem yld_range {F : FH} (lo : Int) (n : Nat) : Yld g F (Itr lo n) (upFrom lo n) := by
  refine ⟨fun i d F2 H2 s1 s2 hd => ?_, fun F2 H2 s1 s2 => ?_⟩
  · unfold upFrom at hd
    rw [List.getElem?_map] at hd
    obtain ⟨j, hj, rfl⟩ := Option.map_eq_some_iff.mp hd
    obtain ⟨h1, h2⟩ := List.getElem?_eq_some_iff.mp hj
    have : i < n := by simpa using h1
    have e : j = i := by rw [List.getElem_range] at h2; exact h2.symm
    subst e
    refine ⟨this, fun x H3 hy => ?_⟩
    obtain ⟨e1, e2⟩ := hy
    subst e2
    exact .inl ⟨e1, .int _⟩
  · show n ≤ (upFrom lo n).length
    simp [upFrom]
def rngOf : List D → Option (List D)
  | [.int j] => if -(2 ^ 62) ≤ j ∧ j < 2 ^ 62 then some (upFrom 0 j.toNat) else none
  | _ => none
def iBy (m : List D → Option (List D)) (fs : AM) : AM := fun S w => (fs S w).bind fun ds w1 => R.ofO (m ds) w1
theorem di_range (hm : X.mg "range" = none) (ha : DA X g E [a] fs) (hg : Gl X "range" := by rfl) (hs : starEach [a] X.env = [(false, eval a X.env)] := by rfl) : DI X g E tg (.Call (.Name "range" p) [a] [] pos) (iBy rngOf fs) := by
  obtain ⟨ta, pa, ra⟩ := ha.run
  refine ⟨_, pi_range1 hg hm pa hs, fun σ H Rq F S w R h => ?_⟩
  refine ra σ H _ F S w R (PostG.imp (PostG.bind h) fun ds w1 _ h1 vs H1 F1 x1 r1 => ?_)
  obtain ⟨zs, hz, q⟩ := post_ofO' h1
  unfold rngOf at hz
  split at hz
  · split at hz
    · rename_i hl
      cases hz
      obtain ⟨v, rfl, h⟩ := drs1 r1
      cases h
      exact ⟨_, rfl, hl.1, hl.2, q _ H1 F1 x1 (yld_range 0 _)⟩
    · cases hz
  · cases hz
/-- zip of two lists, of two tuples -/
def zipD (ds es : List D) : List D := (ds.zip es).map fun p => .tup [p.1, p.2]
def zipOf : List D → Option (List D)
  | [.lst ds, .lst es] => some (zipD ds es)
  | [.tup ds, .tup es] => some (zipD ds es)
  | _ => none
theorem zip_get {ds es : List D} {i : Nat} {z : D} (h : (zipD ds es)[i]? = some z) : ∃ d e, ds[i]? = some d ∧ es[i]? = some e ∧ z = .tup [d, e] := by
  unfold zipD at h
  rw [List.getElem?_map] at h
  obtain ⟨q, hq, rfl⟩ := Option.map_eq_some_iff.mp h
  obtain ⟨d, e⟩ := q
  have := List.getElem?_zip_eq_some.mp hq
  exact ⟨d, e, this.1, this.2, rfl⟩
theorem yld_zip {F : FH} {a b : Addr} {xs ys : List V} {ds es : List D} (h : F a = some (.lst xs)) (r : DRs g F xs ds) (h2 : F b = some (.lst ys)) (r2 : DRs g F ys es) : Yld g F (Itz g.K a b) (zipD ds es) := by
  refine ⟨fun i z F2 H2 s1 s2 hd => ?_, fun F2 H2 s1 s2 => ⟨xs, ys, .inl (.inl (s2 _ _ (s1.fz _ _ h))), .inl (.inl (s2 _ _ (s1.fz _ _ h2))), ?_⟩⟩
  · obtain ⟨d, e, hd', he, rfl⟩ := zip_get hd
    obtain ⟨v, hv, rv⟩ := r.get hd'
    obtain ⟨u, hu, ru⟩ := r2.get he
    have hs : SqL g.K H2 a xs := .inl (.inl (s2 _ _ (s1.fz _ _ h)))
    have hs2 : SqL g.K H2 b ys := .inl (.inl (s2 _ _ (s1.fz _ _ h2)))
    refine ⟨⟨xs, ys, v, u, hs, hs2, hv, hu⟩, fun x H3 hy => ?_⟩
    obtain ⟨T, x1, x2, e1, n, e2, f1, f2⟩ := hy
    have e3 := f1 xs hs; rw [hv] at e3; cases e3
    have e4 := f2 ys hs2; rw [hu] at e4; cases e4
    exact .inr ⟨T, _, _, e1, n, e2, .cons (rv.mono s1) (.cons (ru.mono s1) .nil), rfl⟩
  · rw [r.length, r2.length]
    simp only [zipD, List.length_map, List.length_zip]
    omega
theorem yld_zipT {F : FH} {a b : Addr} {xs ys : List V} {ds es : List D} (h : SqT g.K F a xs) (r : DRs g F xs ds) (h2 : SqT g.K F b ys) (r2 : DRs g F ys es) : Yld g F (RZ.ItzT g.K a b) (zipD ds es) := by
  refine ⟨fun i z F2 H2 s1 s2 hd => ?_, fun F2 H2 s1 s2 => ⟨xs, ys, same_T s2 (same_T s1.fz h), same_T s2 (same_T s1.fz h2), ?_⟩⟩
  · obtain ⟨d, e, hd', he, rfl⟩ := zip_get hd
    obtain ⟨v, hv, rv⟩ := r.get hd'
    obtain ⟨u, hu, ru⟩ := r2.get he
    have hs : SqT g.K H2 a xs := same_T s2 (same_T s1.fz h)
    have hs2 : SqT g.K H2 b ys := same_T s2 (same_T s1.fz h2)
    refine ⟨⟨xs, ys, v, u, hs, hs2, hv, hu⟩, fun x H3 hy => ?_⟩
    obtain ⟨T, x1, x2, e1, n, e2, f1, f2⟩ := hy
    have e3 := f1 xs hs; rw [hv] at e3; cases e3
    have e4 := f2 ys hs2; rw [hu] at e4; cases e4
    exact .inr ⟨T, _, _, e1, n, e2, .cons (rv.mono s1) (.cons (ru.mono s1) .nil), rfl⟩
  · rw [r.length, r2.length]
    simp only [zipD, List.length_map, List.length_zip]
    omega
theorem di_zip {elts : List Expr} {kk : Nat} {tpos : Pos} (hK : g.K = X.K) (hm : X.mg "zip" = none) (ha : DA X g E [a, b] fs) (hg : Gl X "zip" := by rfl)
    (hs : starEach [a, b] X.env = (false, eval a X.env) :: starEach [b] X.env := by rfl) (hpl : (backTo pos (starEach [b] X.env)).any (·.1) = false := by rfl) : DI X g E (.Tuple elts kk tpos) (.Call (.Name "zip" p) [a, b] [] pos) (iBy zipOf fs) := by
  obtain ⟨ta, pa, ra⟩ := ha.run
  refine ⟨_, RZ.pi_zipA hg hm pa hs hpl, fun σ H Rq F S w R h => ?_⟩
  refine ra σ H _ F S w R (PostG.imp (PostG.bind h) fun ds w1 _ h1 vs H1 F1 x1 r1 => ?_)
  obtain ⟨zs, hz, q⟩ := post_ofO' h1
  rw [← hK]
  unfold zipOf at hz
  split at hz
  · cases hz
    obtain ⟨v, u, rfl, h, h'⟩ := drs2 r1
    cases h with
    | lst h r =>
      cases h' with
      | lst h2 r2 => exact ⟨_, _, _, _, rfl, .inl ⟨.inl (.inl (x1.sub _ _ h)), .inl (.inl (x1.sub _ _ h2)), q _ H1 F1 x1 (yld_zip h r h2 r2)⟩⟩
  · cases hz
    obtain ⟨v, u, rfl, h, h'⟩ := drs2 r1
    cases h with
    | tup h r =>
      cases h' with
      | tup h2 r2 => exact ⟨_, _, _, _, rfl, .inr ⟨same_T x1.sub h, same_T x1.sub h2, q _ H1 F1 x1 (yld_zipT h r h2 r2)⟩⟩
  · cases hz
end
end Y
namespace Y
open PySem PySem.Spec PyProof.Rows L2
section
variable {X : Cx} {g : G} {E : EK} {e a b c : Expr} {es : List Expr} {pos p p2 : Pos} {fa fb f : EM} {fs : AM}
def tSem (g : G) (E : EK) (f : EM) : TE := fun σ H Q => ∃ F S w, Rel g F w S σ H ∧ Post g F H Q (E σ) (f S w)
def tSemT (g : G) (E : EK) (f : TM) : TT := fun σ H Q => ∃ F S w, Rel g F w S σ H ∧ PostT g F H Q (E σ) (f S w)
theorem DE.pe (h : DE X g E e f) : PE X e (tSem g E f) := by
  obtain ⟨t, p, r⟩ := h.run
  exact ⟨fun pins s σ H Q I ⟨F, S, w, R, q⟩ => p.run pins s σ H Q I (r σ H Q F S w R q)⟩
theorem DT.pt {f : TM} (h : DT X g E e f) : PT X e (tSemT g E f) := by
  obtain ⟨t, p, r⟩ := h.run
  exact ⟨fun pins s σ H Q I ⟨F, S, w, R, q⟩ => p.run pins s σ H Q I (r σ H Q F S w R q)⟩

theorem Rel.set {F : FH} {H : Hp} {w : Bx} {S : SL} {σ : L2.St} {v : V} {d : D} (R : Rel g F w S σ H) (i : Nat) (r : DR g F v d) : Rel g F w (S.set i (some (.dat d))) (σ.set i (some v)) H := by
  refine ⟨R.sub, R.bx, by rw [List.length_set, List.length_set]; exact R.len, fun j s hs => ?_, fun j k ds ds2 u h1 h2 h3 h4 => ?_⟩
  · rw [List.getElem?_set] at hs ⊢
    by_cases e : i = j
    · rw [if_pos e] at hs ⊢
      by_cases hl : j < S.length
      · rw [if_pos (e ▸ hl)] at hs; cases hs
        rw [if_pos (by rw [e, ← R.len]; exact hl)]
        exact ⟨v, rfl, r⟩
      · rw [if_neg (e ▸ hl)] at hs; cases hs
    · rw [if_neg e] at hs ⊢; exact R.sl j s hs
  · rw [List.getElem?_set] at h1 h2 h3 h4
    by_cases e : i = j
    · rw [if_pos e] at h1; split at h1 <;> cases h1
    · by_cases e2 : i = k
      · rw [if_pos e2] at h2; split at h2 <;> cases h2
      · rw [if_neg e] at h1 h3; rw [if_neg e2] at h2 h4; exact R.inj j k ds ds2 u h1 h2 h3 h4
def wipeS (S : SL) : List Nat → SL
  | [] => S
  | v :: vs => (wipeS S vs).set v none
theorem wipe_get (σ : L2.St) (j : Nat) : ∀ vs : List Nat, (wipe σ vs)[j]? = if j ∈ vs then (if j < σ.length then some none else none) else σ[j]?
  | [] => by simp [wipe]
  | v :: vs => by
    unfold wipe
    rw [List.getElem?_set, wipe_length, wipe_get σ j vs]
    by_cases e : v = j
    · subst e; simp
    · have : (j ∈ v :: vs) ↔ j ∈ vs := by simp [Ne.symm e]
      rw [if_neg e]
      by_cases h : j ∈ vs
      · rw [if_pos h, if_pos (this.mpr h)]
      · rw [if_neg h, if_neg (fun z => h (this.mp z))]
theorem wipeS_length (S : SL) : ∀ vs : List Nat, (wipeS S vs).length = S.length
  | [] => rfl
  | v :: vs => by unfold wipeS; rw [List.length_set, wipeS_length S vs]
theorem wipeS_get (σ : SL) (j : Nat) : ∀ vs : List Nat, (wipeS σ vs)[j]? = if j ∈ vs then (if j < σ.length then some none else none) else σ[j]?
  | [] => by simp [wipeS]
  | v :: vs => by
    unfold wipeS
    rw [List.getElem?_set, wipeS_length, wipeS_get σ j vs]
    by_cases e : v = j
    · subst e; simp
    · have : (j ∈ v :: vs) ↔ j ∈ vs := by simp [Ne.symm e]
      rw [if_neg e]
      by_cases h : j ∈ vs
      · rw [if_pos h, if_pos (this.mpr h)]
      · rw [if_neg h, if_neg (fun z => h (this.mp z))]
theorem wipe_set {σ : L2.St} {i : Nat} {x : Option V} {vs : List Nat} (h : i ∈ vs) : wipe (σ.set i x) vs = wipe σ vs := by
  apply List.ext_getElem?
  intro j
  rw [wipe_get, wipe_get, List.length_set, List.getElem?_set]
  by_cases hj : j ∈ vs
  · rw [if_pos hj, if_pos hj]
  · rw [if_neg hj, if_neg hj, if_neg (fun (e : i = j) => hj (e ▸ h))]
theorem Rel.wipe {F : FH} {H : Hp} {w : Bx} {S : SL} {σ : L2.St} (R : Rel g F w S σ H) (vs : List Nat) : Rel g F w (wipeS S vs) (L2.wipe σ vs) H := by
  refine ⟨R.sub, R.bx, by rw [wipeS_length, wipe_length]; exact R.len, fun j s hs => ?_, fun j k ds ds2 u h1 h2 h3 h4 => ?_⟩
  · rw [wipeS_get] at hs
    rw [wipe_get]
    by_cases hj : j ∈ vs
    · rw [if_pos hj] at hs; split at hs <;> cases hs
    · rw [if_neg hj] at hs ⊢; exact R.sl j s hs
  · rw [wipeS_get] at h1 h2
    rw [wipe_get] at h3 h4
    by_cases hj : j ∈ vs
    · rw [if_pos hj] at h1; split at h1 <;> cases h1
    · by_cases hk : k ∈ vs
      · rw [if_pos hk] at h2; split at h2 <;> cases h2
      · rw [if_neg hj] at h1 h3; rw [if_neg hk] at h2 h4; exact R.inj j k ds ds2 u h1 h2 h3 h4

abbrev GM := D → SL → Option SL
abbrev GMs := List D → SL → Option SL
/-- is: the slots that are set -/
structure DG (X : Cx) (g : G) (tg : Expr) (ns : List Nat) (m : GM) : Prop where
  run : ∃ t, PG X tg t ∧ ∀ v σ H Q F S w d S', Rel g F w S σ H → DR g F v d → m d S = some S' → (∀ σ', Rel g F w S' σ' H → (∀ vs, (∀ i ∈ ns, i ∈ vs) → L2.wipe σ' vs = L2.wipe σ vs) → Q σ' H) → t v σ H Q
  own : ∀ d S S' (i : Nat) ds, m d S = some S' → S'[i]? = some (some (.own ds)) → S[i]? = some (some (.own ds)) ∧ i ∉ ns
structure DGs (X : Cx) (g : G) (tgs : List Expr) (ns : List Nat) (m : GMs) : Prop where
  run : ∃ t, PGs X tgs t ∧ ∀ vs σ H Q F S w ds S', Rel g F w S σ H → DRs g F vs ds → m ds S = some S' → (∀ σ', Rel g F w S' σ' H → (∀ us, (∀ i ∈ ns, i ∈ us) → L2.wipe σ' us = L2.wipe σ us) → Q σ' H) → t vs σ H Q
  own : ∀ es S S' (i : Nat) ds, m es S = some S' → S'[i]? = some (some (.own ds)) → S[i]? = some (some (.own ds)) ∧ i ∉ ns
def gSet (i : Nat) : GM := fun d S => some (S.set i (some (.dat d)))
def gsNil : GMs := fun ds S => match ds with
  | [] => some S
  | _ => none
def gsCons (m : GM) (k : GMs) : GMs := fun ds S => match ds with
  | d :: r => (m d S).bind (k r)
  | [] => none
def gTupM (k : GMs) : GM := fun d S => match d with
  | .tup ds => k ds S
  | _ => none
theorem dg_name (i : Nat) {x : Str} (hN : X.N.Nodup) (hi : X.N[i]? = some x := by rfl) (hx : Loc X.env.scope x := by first | exact Or.inl rfl | exact Or.inr rfl) (hf : X.fn x = true ∨ X.env.scope.names.lookup x = some .local := by first | exact .inl rfl | exact .inr rfl) : DG X g (.Name x pos) [i] (gSet i) := by
  refine ⟨⟨_, pg_name hN hi hx hf, fun v σ H Q F S w d S' R r hm q => ?_⟩, fun d S S' j ds hm hj => ?_⟩
  · cases hm
    exact q _ (R.set i r) fun vs hv => wipe_set (hv i (List.mem_singleton.mpr rfl))
  · cases hm
    rw [List.getElem?_set] at hj
    by_cases e : i = j
    · rw [if_pos e] at hj; split at hj <;> cases hj
    · rw [if_neg e] at hj; exact ⟨hj, fun z => e (List.mem_singleton.mp z).symm⟩
theorem dgs_nil : DGs X g [] [] gsNil := by
  refine ⟨⟨_, pgs_nil, fun vs σ H Q F S w ds S' R r hm q => ?_⟩, fun es S S' i ds hm hj => ?_⟩
  · cases r with
    | nil => cases hm; exact ⟨rfl, q σ R fun _ _ => rfl⟩
    | cons _ _ => cases hm
  · cases es with
    | nil => cases hm; exact ⟨hj, fun z => nomatch z⟩
    | cons _ _ => cases hm
theorem dgs_cons {tgs : List Expr} {ns ns2 : List Nat} {m : GM} {k : GMs} (h1 : DG X g e ns m) (h2 : DGs X g tgs ns2 k) (hq : ∀ (t : TG) (u : TGs), PG X e t → PGs X tgs u → PGs X (e :: tgs) (gCons t u) := by exact fun _ _ a b => pgs_cons a b) : DGs X g (e :: tgs) (ns ++ ns2) (gsCons m k) := by
  obtain ⟨t, p, r⟩ := h1.run
  obtain ⟨t2, p2, r2⟩ := h2.run
  refine ⟨⟨_, hq t t2 p p2, fun vs σ H Q F S w ds S' R rr hm q => ?_⟩, fun es S S' i ds hm hj => ?_⟩
  · cases rr with
    | nil => cases hm
    | cons rd rs =>
      obtain ⟨S1, e1, e2⟩ := Option.bind_eq_some_iff.mp hm
      refine ⟨_, _, rfl, r _ σ H _ F S w _ S1 R rd e1 fun σ1 R1 w1 => ?_⟩
      refine r2 _ σ1 H _ F S1 w _ S' R1 rs e2 fun σ2 R2 w2 => q σ2 R2 fun us hu => ?_
      rw [w2 us fun i hi => hu i (List.mem_append_right _ hi), w1 us fun i hi => hu i (List.mem_append_left _ hi)]
  · cases es with
    | nil => cases hm
    | cons d rs =>
      obtain ⟨S1, e1, e2⟩ := Option.bind_eq_some_iff.mp hm
      obtain ⟨a1, a2⟩ := h2.own _ _ _ i ds e2 hj
      obtain ⟨b1, b2⟩ := h1.own _ _ _ i ds e1 a1
      exact ⟨b1, fun z => (List.mem_append.mp z).elim b2 a2⟩
theorem dg_tup {tgs : List Expr} {kk : Nat} {ns : List Nat} {k : GMs} {n : Nat} (hK : g.K = X.K) (h : DGs X g tgs ns k) (hq : ∀ u : TGs, PGs X tgs u → PG X (.Tuple tgs kk pos) (gTup X.K n u)) (hn : ∀ ds S S', k ds S = some S' → ds.length = n) : DG X g (.Tuple tgs kk pos) ns (gTupM k) := by
  obtain ⟨t, p, r⟩ := h.run
  refine ⟨⟨_, hq t p, fun v σ H Q F S w d S' R rd hm q => ?_⟩, fun d S S' i ds hm hj => ?_⟩
  · rw [← hK]
    cases rd with
    | tup hs rs => exact ⟨_, _, rfl, same_T R.sub hs, by rw [rs.length]; exact hn _ _ _ hm, r _ σ H _ F S w _ S' R rs hm q⟩
    | _ => cases hm
  · cases d with
    | tup es => exact h.own es S S' i ds hm hj
    | _ => cases hm
theorem gs_len0 : ∀ ds S S', gsNil ds S = some S' → ds.length = 0 := fun ds S S' h => by
  cases ds with
  | nil => rfl
  | cons _ _ => cases h
theorem gs_len {m : GM} {k : GMs} {n : Nat} (h : ∀ ds S S', k ds S = some S' → ds.length = n) : ∀ ds S S', gsCons m k ds S = some S' → ds.length = n + 1 := fun ds S S' hm => by
  cases ds with
  | nil => cases hm
  | cons d r =>
    obtain ⟨S1, _, e2⟩ := Option.bind_eq_some_iff.mp hm
    rw [List.length_cons, h _ _ _ e2]
def tSemG (g : G) (ns : List Nat) (m : GM) : TG := fun v σ H Q => ∃ F S w d S', Rel g F w S σ H ∧ DR g F v d ∧ m d S = some S' ∧ ∀ σ', Rel g F w S' σ' H → (∀ vs, (∀ i ∈ ns, i ∈ vs) → L2.wipe σ' vs = L2.wipe σ vs) → Q σ' H
theorem DG.pg {tg : Expr} {ns : List Nat} {m : GM} (h : DG X g tg ns m) : PG X tg (tSemG g ns m) := by
  obtain ⟨t, p, r⟩ := h.run
  refine ⟨fun pins s σ H v u Q I rv ⟨F, S, w, d, S', R, rd, hm, q⟩ => ?_⟩
  exact p.run pins s σ H v u Q I rv (r v σ H Q F S w d S' R rd hm q)

def R.nx {α : Type} : R α → R α
  | .ok a w => .ok a w
  | _ => .bad
def lcLoop (gm : GM) (tm : TM) (em : EM) (S0 : SL) : List D → Bx → R (List D)
  | [], w => .ok [] w
  | d :: ds, w => match gm d S0 with
    | none => .bad
    | some S1 => (tm S1 w).nx.bind fun b w1 => if b then (em S1 w1).nx.bind fun y w2 => (lcLoop gm tm em S0 ds w2).bind fun ys w3 => .ok (y :: ys) w3 else lcLoop gm tm em S0 ds w1
def oLc (fi : AM) (gm : GM) (tm : TM) (em : EM) (vs : List Nat) : AM := fun S w => (fi S w).bind fun ds w1 => if ds.length ≤ sizeN then lcLoop gm tm em (wipeS S vs) ds w1 else .bad
def tYesM : TM := fun _ w => .ok true w
structure DTs (X : Cx) (g : G) (E : EK) (ifs : List Expr) (f : TM) : Prop where
  run : ∃ t, PTs X ifs t ∧ ∀ σ H Q F S w, Rel g F w S σ H → PostT g F H Q (E σ) (f S w) → t σ H Q
theorem dts_nil : DTs X g E [] tYesM := ⟨_, pts_nil, fun σ H Q F S w R h => h H F R.ex⟩
theorem DTs.pts {ifs : List Expr} {f : TM} (h : DTs X g E ifs f) : PTs X ifs (tSemT g E f) := by
  obtain ⟨t, p, r⟩ := h.run
  exact ⟨fun pins s σ H Q I ⟨F, S, w, R, q⟩ => p.run pins s σ H Q I (r σ H Q F S w R q)⟩
/-- what may be written anew -/
def Mut (u : HO) : Prop := (∃ vs, u = .lst vs) ∨ (∃ vs, u = .dK vs) ∨ ∃ C d vs, u = .ins C d vs
theorem Mut.ne {u : HO} (m : Mut u) (h1 : ∀ vs, u ≠ .lst vs) (h2 : ∀ vs, u ≠ .dK vs) (h3 : ∀ C d vs, u ≠ .ins C d vs) : False := by
  rcases m with ⟨vs, z⟩ | ⟨vs, z⟩ | ⟨C, d, vs, z⟩
  · exact h1 vs z
  · exact h2 vs z
  · exact h3 C d vs z
theorem Ext.mut {F F' : FH} {H H' : Hp} {w : Bx} {q : Addr} {o u0 : HO} (x : Ext g F H F' H' w) (n : H q = none) (n2 : F'.free q) (nb : q ≠ g.bx) (hq : H' q = some u0) (hm : Mut u0) : Ext g F H F' (upd H' q o) w := by
  refine ⟨x.ff, fun a u na nc nt h => ?_, fun a h => x.dom a (upd_dom h), x.new, x.nad, fun a u h => ?_, x.bx.heap (by rw [upd_ne nb.symm]) (fun i a h => by rw [upd_ne (show a ≠ q from fun z => n2.2 i (z ▸ h))]) (fun a u h1 h2 h3 h => ?_), fun a od u h => by rw [upd_ne (ne_of_none h n)]; exact x.frz a od u h⟩
  · rw [upd_ne (ne_of_none h n)]; exact x.hh a u na nc nt h
  · rw [upd_ne (ne_of_none h n2.1)]; exact x.sub a u h
  · by_cases e : a = q
    · rw [e, hq] at h; cases h; exact (hm.ne h1 h2 h3).elim
    · rw [upd_ne e]; exact h
theorem nx_post {α : Type} {F : FH} {H : Hp} {Q Q2 : α → Bx → Prop} {r : R α} {E1 E0 : XK} (h : PostG g F H E1 Q r.nx) (i : ∀ a w, Q a w → Q2 a w) : PostG g F H E0 Q2 r := by
  cases r with
  | ok a w => exact i a w h
  | err c fs w => exact h.elim
  | bad => exact h
theorem not_box {F : FH} {H : Hp} {w : Bx} {q : Addr} (b : BxOk g F w H) (n : H q = none) : q ≠ g.bx := fun e => by
  obtain ⟨c, h, _⟩ := b.at_
  rw [e, h] at n; cases n
theorem lc_run {wi : TI} {fi : AM} {gm : GM} {tm : TM} {em : EM} {ns vs : List Nat} (hn : ∀ i ∈ ns, i ∈ vs)
    (ri : ∀ σ H (Rq : It → Hp → Prop) F S w, Rel g F w S σ H → PostG g F H (E σ) (fun ds w' => ∀ J H' F', Ext g F H F' H' w' → Yld g F' J ds → Rq J H') (fi S w) → wi σ H Rq) :
    ∀ σ H Q F S w, Rel g F w S σ H → PostO g F H Q (E σ) (oLc fi gm tm em vs S w) → tLc wi (tSemG g ns gm) (tSemT g (kE E0) tm) (tSem g (kE E0) em) vs σ H Q := by
  intro σ H Q F S w R h
  refine ri σ H _ F S w R (PostG.imp (PostG.bind h) fun ds w1 _ h1 J H1 F1 x1 yl D nD => ?_)
  by_cases hl : ds.length ≤ sizeN
  · rw [if_pos hl] at h1
    have nDb : D ≠ g.bx := not_box x1.bx nD
    refine ⟨fun i m H2 => ∃ F2 w2 acc ys, Ext g F1 H1 F2 H2 w2 ∧ F2.free D ∧ H2 D = some (.lst acc) ∧ DRs g F2 acc ys ∧ ys.length ≤ i ∧ i + m = ds.length ∧
      PostG g F H (E σ) (fun zs w' => ∀ p vs H' F', Ext g F H F' H' w' → H p = none → F'.free p → H' p = some (.lst vs) → DRs g F' vs (ys ++ zs) → Q (.ref p) H') (lcLoop gm tm em (wipeS S vs) (ds.drop i) w2),
      ⟨ds.length, F1, w1, [], [], Ext.own x1.sub x1.bx nD, free_of x1.sub x1.bx nD, upd_same, .nil, Nat.zero_le _, by omega, h1⟩, fun i m H2 hW => ?_⟩
    obtain ⟨F2, w2, acc, ys, x2, nF2, hD, rys, hy, him, hp⟩ := hW
    cases hd : ds[i]? with
    | none =>
      have hle : ds.length ≤ i := List.getElem?_eq_none_iff.mp hd
      have hie : i = ds.length := by omega
      refine .inl ⟨hie ▸ yl.stop F2 H2 x2.ff x2.sub, ?_⟩
      rw [List.drop_eq_nil_of_le hle] at hp
      have hp : ∀ p vs H' F', Ext g F H F' H' w2 → H p = none → F'.free p → H' p = some (.lst vs) → DRs g F' vs (ys ++ []) → Q (.ref p) H' := hp
      rw [List.append_nil] at hp
      exact hp D acc H2 F2 (x1.trans x2) (x1.fresh nD) nF2 hD rys
    | some d =>
      obtain ⟨hlt, hde⟩ := List.getElem?_eq_some_iff.mp hd
      obtain ⟨hgo, hyl⟩ := yl.go i d F2 H2 x2.ff x2.sub hd
      rw [List.drop_eq_getElem_cons hlt, hde] at hp
      refine .inr ⟨hgo, fun H3 => ∃ F2 w2 acc ys, Ext g F1 H1 F2 H3 w2 ∧ F2.free D ∧ H3 D = some (.lst acc) ∧ DRs g F2 acc ys ∧ ys.length ≤ i + 1 ∧
        PostG g F H (E σ) (fun zs w' => ∀ p vs H' F', Ext g F H F' H' w' → H p = none → F'.free p → H' p = some (.lst vs) → DRs g F' vs (ys ++ zs) → Q (.ref p) H') (lcLoop gm tm em (wipeS S vs) (ds.drop (i + 1)) w2), fun H' hN => ?_, fun x H3 hx => ?_⟩
      · obtain ⟨F', w', acc', ys', b1, b2, b3, b4, b5, b6⟩ := hN
        exact ⟨m - 1, by omega, F', w', acc', ys', b1, b2, b3, b4, b5, by omega, b6⟩
      · -- the item, perhaps in a new pair
        have item : ∃ F3, Ext g F2 H2 F3 H3 w2 ∧ DR g F3 x d := by
          rcases hyl x H3 hx with ⟨e1, r1⟩ | ⟨T, xs, es, e1, nT, e2, r1, e3⟩
          · subst e1; exact ⟨F2, Ext.refl x2.sub x2.bx, r1⟩
          · subst e1 e2 e3
            exact ⟨_, Ext.lay x2.sub x2.bx nT, .tup (.inl (.inl upd_same)) (r1.mono (Ext.lay x2.sub x2.bx nT).ff)⟩
        obtain ⟨F3, x3, rx⟩ := item
        have x13 : Ext g F H F3 H3 w2 := x1.trans (x2.trans x3)
        cases hg : gm d (wipeS S vs) with
        | none => unfold lcLoop at hp; rw [hg] at hp; exact hp.elim
        | some S1 =>
          unfold lcLoop at hp
          rw [hg] at hp
          refine ⟨F3, wipeS S vs, w2, d, S1, (R.ext x13).wipe vs, rx, hg, fun σ2 R2 wp => ⟨?_, ?_⟩⟩
          · rw [wp vs hn]
            apply List.ext_getElem?
            intro j
            simp only [wipe_get, wipe_length]
            by_cases hj : j ∈ vs
            · simp only [if_pos hj]
            · simp only [if_neg hj]
          · refine ⟨F3, S1, w2, R2, nx_post (PostG.ext x13 (PostG.bind hp) fun b w3 h3 => h3) fun b w3 h3 H4 F4 x4 => ?_⟩
            have x14 := x13.trans x4
            have nF4 : F4.free D := (x3.trans x4).free nF2 hD
            have hD4 : H4 D = some (.lst acc) := (x3.trans x4).hh D _ nDb nF2.2 (fun _ z => by cases z) hD
            cases b with
            | false =>
              refine iteF ?_
              exact ⟨F4, w3, acc, ys, x2.trans (x3.trans x4), nF4, hD4, rys.mono (x3.ff.trans x4.ff), by omega, h3⟩
            | true =>
              refine iteT ?_
              refine ⟨F4, S1, w3, R2.ext x4, nx_post (PostG.ext x14 (PostG.bind h3) fun y w5 h5 => h5) fun y w5 h5 v H5 F5 x5 ry => ?_⟩
              have nF5 : F5.free D := x5.free nF4 hD4
              have hD5 : H5 D = some (.lst acc) := x5.hh D _ nDb nF4.2 (fun _ z => by cases z) hD4
              have hal : acc.length = ys.length := rys.length
              refine ⟨acc, hD5, by show acc.length < sizeN; omega, F5, w5, acc ++ [v], ys ++ [y], Ext.mut (x2.trans (x3.trans (x4.trans x5))) nD nF5 nDb hD5 (.inl ⟨_, rfl⟩), nF5, upd_same, (rys.mono (x3.ff.trans (x4.ff.trans x5.ff))).append (.cons ry .nil), by rw [List.length_append, List.length_singleton]; omega, ?_⟩
              refine PostG.imp (PostG.bind h5) fun zs w6 _ h6 => ?_
              rw [List.append_assoc]
              exact h6
  · rw [if_neg hl] at h1; exact h1.elim
theorem do_lc {elt tg iter : Expr} {ifs : List Expr} {scope : Scope} {fi : AM} {gm : GM} {tm : TM} {em : EM} {ns : List Nat} (own : List (Str × Nat)) (hc : X.calm = true) (hN : X.N.Nodup) (hi : DI X g E tg iter fi) (ok : BlkOk X.N X.env.scope scope own)
    (hg : ∀ (s : Shared) (H : Hp) (C : Addr) (cl : List (Str × Addr)) (fp : List Addr), DG (X.blk s H scope (compEnvC scope cl C X.env) fp) g tg ns gm) (ht : ∀ (s : Shared) (H : Hp) (C : Addr) (cl : List (Str × Addr)) (fp : List Addr), DTs (X.blk s H scope (compEnvC scope cl C X.env) fp) g (kE E0) ifs tm)
    (he : ∀ (s : Shared) (H : Hp) (C : Addr) (cl : List (Str × Addr)) (fp : List Addr), DE (X.blk s H scope (compEnvC scope cl C X.env) fp) g (kE E0) elt em) (hn : ∀ i ∈ ns, i ∈ own.map (·.2) := by decide) (hs : ∀ x, foldedSetIterable iter X.env x = pure x := by intro _; rfl) :
    DO X g E (.ListComp elt [⟨tg, iter, ifs, 0⟩] scope pos) (oLc fi gm tm em (own.map (·.2))) := by
  obtain ⟨wi, p, ri⟩ := hi.run
  exact ⟨_, pe_lc hc hN p ok (fun s H C cl fp => (hg s H C cl fp).pg) (fun s H C cl fp => (ht s H C cl fp).pts) (fun s H C cl fp => (he s H C cl fp).pe) hs, lc_run hn ri⟩
end
end Y
namespace Y
open PySem PySem.Spec PyProof.Rows L2
inductive RS where
  | nx (S : SL) (w : Bx) | rt (d : D) (w : Bx) | bk (S : SL) (w : Bx) | ct (S : SL) (w : Bx) | err (S : SL) (c : Str) (fs : List (Str × D)) (w : Bx) | bad
abbrev SM := SL → Bx → RS
structure RelS (g : G) (F0 : FH) (H0 : Hp) (B F : FH) (w : Bx) (S : SL) (σ : L2.St) (H : Hp) : Prop where
  rel : Rel g F w S σ H
  ext : Ext g F0 H0 F H w
  fl : FSame B F
  fr : ∀ (i : Nat) (ds : List D) (p : Addr), S[i]? = some (some (.own ds)) → σ[i]? = some (some (.ref p)) → H0 p = none
def PostS (g : G) (F0 : FH) (H0 : Hp) (B : FH) (E : EK) (N : Ends) : RS → Prop
  | .nx S w => ∀ (σ' : L2.St) (H' : Hp) (F' : FH), RelS g F0 H0 B F' w S σ' H' → N.nx σ' H'
  | .bk S w => ∀ (σ' : L2.St) (H' : Hp) (F' : FH), RelS g F0 H0 B F' w S σ' H' → N.bk σ' H'
  | .ct S w => ∀ (σ' : L2.St) (H' : Hp) (F' : FH), RelS g F0 H0 B F' w S σ' H' → N.ct σ' H'
  | .rt d w => ∀ (v : V) (H' : Hp) (F' : FH), Ext g F0 H0 F' H' w → DR g F' v d → N.rt v H'
  | .err S c fs w => ∀ (σ' : L2.St) (H' : Hp) (F' : FH), RelS g F0 H0 B F' w S σ' H' → ∀ (cl a : Addr) (vs : List (Str × V)), H0 a = none → g.cls c = some cl → H' a = some (.xd vs) → DRf g F' vs fs → E σ' (.ref cl) (some a) H'
  | .bad => False
structure DS (X : Cx) (g : G) (E : EK) (F0 : FH) (H0 : Hp) (st : Stmt) (m : SM) : Prop where
  run : ∃ t, PS X st t ∧ ∀ (N : Ends) (σ : L2.St) (H : Hp) (F : FH) (S : SL) (w : Bx) (B : FH), RelS g F0 H0 B F w S σ H → PostS g F0 H0 B E N (m S w) → t N σ H
structure DSs (X : Cx) (g : G) (E : EK) (F0 : FH) (H0 : Hp) (st : List Stmt) (m : SM) : Prop where
  run : ∃ t, PSs X st t ∧ ∀ (N : Ends) (σ : L2.St) (H : Hp) (F : FH) (S : SL) (w : Bx) (B : FH), RelS g F0 H0 B F w S σ H → PostS g F0 H0 B E N (m S w) → t N σ H
/-- a value, then what follows -/
def R.to {α : Type} : R α → SL → (α → Bx → RS) → RS
  | .ok a w, _, k => k a w
  | .err c fs w, S, _ => .err S c fs w
  | .bad, _, _ => .bad
@[simp] theorem R.to_ok {α : Type} (a : α) (w : Bx) (S : SL) (k : α → Bx → RS) : (R.ok a w).to S k = k a w := rfl
@[simp] theorem R.to_err {α : Type} (c : Str) (fs : List (Str × D)) (w : Bx) (S : SL) (k : α → Bx → RS) : (R.err c fs w : R α).to S k = .err S c fs w := rfl
@[simp] theorem R.to_bad {α : Type} (S : SL) (k : α → Bx → RS) : (R.bad : R α).to S k = .bad := rfl
section
variable {X : Cx} {g : G} {E : EK} {F0 : FH} {H0 : Hp} {B : FH} {e a b c : Expr} {es : List Expr} {pos p p2 : Pos} {fa fb f : EM} {fs : AM} {st : Stmt} {sts : List Stmt} {m m2 : SM} {N : Ends}
theorem RelS.ext' {F F' : FH} {H H' : Hp} {w w' : Bx} {S : SL} {σ : L2.St} (R : RelS g F0 H0 B F w S σ H) (x : Ext g F H F' H' w') : RelS g F0 H0 B F' w' S σ H' := ⟨R.rel.ext x, R.ext.trans x, R.fl.trans x.ff, R.fr⟩
theorem PostS.to {α : Type} {F : FH} {H : Hp} {w : Bx} {S : SL} {σ : L2.St} {r : R α} {k : α → Bx → RS} (R0 : RelS g F0 H0 B F w S σ H) (h : PostS g F0 H0 B E N (r.to S k)) : PostG g F H (E σ) (fun a w' => PostS g F0 H0 B E N (k a w')) r := by
  cases r with
  | ok a w => exact h
  | err c fs w => exact fun cl x vs H' F' e n k l q => h σ H' F' (RelS.ext' R0 e) cl x vs (R0.ext.fresh n) k l q
  | bad => exact h
def sNil : SM := fun S w => .nx S w
def sSeq (m k : SM) : SM := fun S w => match m S w with
  | .nx S1 w1 => k S1 w1
  | r => r
theorem dss_nil : DSs X g E F0 H0 [] sNil := ⟨_, pss_nil, fun N σ H F S w B R h => h σ H F R⟩
theorem dss_cons (h1 : DS X g E F0 H0 st m) (h2 : DSs X g E F0 H0 sts m2) : DSs X g E F0 H0 (st :: sts) (sSeq m m2) := by
  obtain ⟨t, p, r⟩ := h1.run
  obtain ⟨t2, p2, r2⟩ := h2.run
  refine ⟨_, pss_cons p p2, fun N σ H F S w B R h => ?_⟩
  refine r { N with nx := t2 N } σ H F S w B R ?_
  unfold sSeq at h
  cases hm : m S w with
  | nx S1 w1 => rw [hm] at h; exact fun σ' H' F' R' => r2 N σ' H' F' S1 w1 B R' h
  | rt d w1 => rw [hm] at h; exact h
  | bk S1 w1 => rw [hm] at h; exact h
  | ct S1 w1 => rw [hm] at h; exact h
  | err S1 c fs w1 => rw [hm] at h; exact h
  | bad => rw [hm] at h; exact h
theorem dss_one (h1 : DS X g E F0 H0 st m) : DSs X g E F0 H0 [st] m := let ⟨t, p, r⟩ := h1.run; ⟨t, pss_one p, r⟩
def sRet (f : EM) : SM := fun S w => (f S w).to S fun d w1 => .rt d w1
theorem ds_ret (ha : DE X g E a fa) : DS X g E F0 H0 (.Return (some a) pos) (sRet fa) := by
  obtain ⟨t, p, r⟩ := ha.run
  refine ⟨_, ps_ret p, fun N σ H F S w B R h => ?_⟩
  exact r σ H _ F S w R.rel (PostG.imp (PostS.to R h) fun d w1 _ h1 v H1 F1 x1 r1 => h1 v H1 F1 (R.ext.trans x1) r1)
def sIf (t : TM) (m k : SM) : SM := fun S w => (t S w).to S fun b w1 => if b then m S w1 else k S w1
theorem ds_if {tc : TM} {aa bb : List Stmt} (hc : DT X g E c tc) (ha : DSs X g E F0 H0 aa m) (hb : DSs X g E F0 H0 bb m2) : DS X g E F0 H0 (.If c aa bb pos) (sIf tc m m2) := by
  obtain ⟨t, p, r⟩ := hc.run
  obtain ⟨t1, p1, r1⟩ := ha.run
  obtain ⟨t2, p2, r2⟩ := hb.run
  refine ⟨_, ps_if p p1 p2, fun N σ H F S w B R h => ?_⟩
  refine r σ H _ F S w R.rel (PostG.imp (PostS.to R h) fun b w1 _ h1 H1 F1 x1 => ?_)
  cases b with
  | true => exact iteT (r1 N σ H1 F1 S w1 B (R.ext' x1) h1)
  | false => exact iteF (r2 N σ H1 F1 S w1 B (R.ext' x1) h1)
theorem RelS.set {F : FH} {H : Hp} {w : Bx} {S : SL} {σ : L2.St} {v : V} {d : D} (R : RelS g F0 H0 B F w S σ H) (i : Nat) (r : DR g F v d) : RelS g F0 H0 B F w (S.set i (some (.dat d))) (σ.set i (some v)) H := by
  refine ⟨R.rel.set i r, R.ext, R.fl, fun j ds p h1 h2 => ?_⟩
  rw [List.getElem?_set] at h1 h2
  by_cases e : i = j
  · rw [if_pos e] at h1; split at h1 <;> cases h1
  · rw [if_neg e] at h1 h2; exact R.fr j ds p h1 h2
theorem RelS.setO {F : FH} {H : Hp} {w : Bx} {S : SL} {σ : L2.St} {q : Addr} {vs : List V} {ds : List D} (R : RelS g F0 H0 B F w S σ H) (i : Nat) (n0 : H0 q = none) (nF : F.free q) (nb : q ≠ g.bx) (hq : H q = some (.lst vs)) (r : DRs g F vs ds)
    (ne : ∀ (j : Nat) (es : List D), S[j]? = some (some (.own es)) → σ[j]? ≠ some (some (.ref q))) : RelS g F0 H0 B F w (S.set i (some (.own ds))) (σ.set i (some (.ref q))) H := by
  refine ⟨⟨R.rel.sub, R.rel.bx, by rw [List.length_set, List.length_set]; exact R.rel.len, fun j s hs => ?_, fun j k es es2 u h1 h2 h3 h4 => ?_⟩, R.ext, R.fl, fun j es p h1 h2 => ?_⟩
  · rw [List.getElem?_set] at hs ⊢
    by_cases e : i = j
    · rw [if_pos e] at hs ⊢
      by_cases hl : j < S.length
      · rw [if_pos (e ▸ hl)] at hs; cases hs
        rw [if_pos (by rw [e, ← R.rel.len]; exact hl)]
        exact ⟨_, rfl, q, vs, rfl, nF, nb, hq, r⟩
      · rw [if_neg (e ▸ hl)] at hs; cases hs
    · rw [if_neg e] at hs ⊢; exact R.rel.sl j s hs
  · rw [List.getElem?_set] at h1 h2 h3 h4
    by_cases e : i = j
    · by_cases e2 : i = k
      · exact e.symm.trans e2
      · rw [if_pos e] at h1 h3; rw [if_neg e2] at h2 h4
        by_cases hl : i < S.length
        · rw [if_pos (by rw [← R.rel.len]; exact hl)] at h3; cases h3
          exact absurd h4 (ne k es2 h2)
        · rw [if_neg hl] at h1; cases h1
    · by_cases e2 : i = k
      · rw [if_neg e] at h1 h3; rw [if_pos e2] at h2 h4
        by_cases hl : i < S.length
        · rw [if_pos (by rw [← R.rel.len]; exact hl)] at h4; cases h4
          exact absurd h3 (ne j es h1)
        · rw [if_neg hl] at h2; cases h2
      · rw [if_neg e] at h1 h3; rw [if_neg e2] at h2 h4; exact R.rel.inj j k es es2 u h1 h2 h3 h4
  · rw [List.getElem?_set] at h1 h2
    by_cases e : i = j
    · rw [if_pos e] at h1 h2
      split at h2
      · cases h2; exact n0
      · cases h2
    · rw [if_neg e] at h1 h2; exact R.fr j es p h1 h2
def sSet (i : Nat) (f : EM) : SM := fun S w => (f S w).to S fun d w1 => .nx (S.set i (some (.dat d))) w1
def sSetO (i : Nat) (f : AM) : SM := fun S w => (f S w).to S fun ds w1 => .nx (S.set i (some (.own ds))) w1
theorem set_run {t : TE} {i : Nat} (r : ∀ σ H Q F S w, Rel g F w S σ H → Post g F H Q (E σ) (f S w) → t σ H Q) : ∀ (N : Ends) (σ : L2.St) (H : Hp) (F : FH) (S : SL) (w : Bx) (B : FH), RelS g F0 H0 B F w S σ H → PostS g F0 H0 B E N (sSet i f S w) → tAsg t (gName i) N σ H := by
  intro N σ H F S w B R h
  exact r σ H _ F S w R.rel (PostG.imp (PostS.to R h) fun d w1 _ h1 v H1 F1 x1 r1 => h1 _ H1 F1 ((R.ext' x1).set i r1))
theorem setO_run {t : TE} {i : Nat} (r : ∀ σ H Q F S w, Rel g F w S σ H → PostO g F H Q (E σ) (fs S w) → t σ H Q) : ∀ (N : Ends) (σ : L2.St) (H : Hp) (F : FH) (S : SL) (w : Bx) (B : FH), RelS g F0 H0 B F w S σ H → PostS g F0 H0 B E N (sSetO i fs S w) → tAsg t (gName i) N σ H := by
  intro N σ H F S w B R h
  refine r σ H _ F S w R.rel (PostG.imp (PostS.to R h) fun d w1 _ h1 p vs H1 F1 x1 np nF hp r1 => h1 _ H1 F1 ((R.ext' x1).setO i (R.ext.fresh np) nF (not_box R.rel.bx np) hp r1 fun j es hj hs => ?_))
  obtain ⟨v, e1, q, us, e2, e3, e4, e5, e6⟩ := R.rel.sl j _ hj
  rw [hs] at e1; cases e1
  cases e2
  rw [np] at e5; cases e5
theorem ds_set (i : Nat) {x : Str} (ha : DE X g E a f) (hN : X.N.Nodup) (hi : X.N[i]? = some x := by rfl) (hx : Loc X.env.scope x := by first | exact Or.inl rfl | exact Or.inr rfl) (hs : swapsWith a (some (.Name x p2)) pos.line X.env = pure false := by rfl)
    (hf : X.fn x = true ∨ X.env.scope.names.lookup x = some .local := by first | exact .inl rfl | exact .inr rfl) : DS X g E F0 H0 (.Assign [.Name x p2] a pos) (sSet i f) := by
  obtain ⟨t, p, r⟩ := ha.run
  exact ⟨_, ps_set hN hi hx p hs hf, set_run r⟩
theorem ds_setO (i : Nat) {x : Str} (ha : DO X g E a fs) (hN : X.N.Nodup) (hi : X.N[i]? = some x := by rfl) (hx : Loc X.env.scope x := by first | exact Or.inl rfl | exact Or.inr rfl) (hs : swapsWith a (some (.Name x p2)) pos.line X.env = pure false := by rfl)
    (hf : X.fn x = true ∨ X.env.scope.names.lookup x = some .local := by first | exact .inl rfl | exact .inr rfl) : DS X g E F0 H0 (.Assign [.Name x p2] a pos) (sSetO i fs) := by
  obtain ⟨t, p, r⟩ := ha.run
  exact ⟨_, ps_set hN hi hx p hs hf, setO_run r⟩
/-- any target -/
theorem wipe_off {σ σ' : L2.St} {ns : List Nat} (h : L2.wipe σ' ns = L2.wipe σ ns) {i : Nat} (hi : i ∉ ns) : σ'[i]? = σ[i]? := by
  have h1 := congrArg (fun l : L2.St => l[i]?) h
  simp only [wipe_get, if_neg hi] at h1
  exact h1
theorem RelS.tgt {F : FH} {H : Hp} {w : Bx} {S S' : SL} {σ σ' : L2.St} {tg : Expr} {ns : List Nat} {gm : GM} {d : D} (hg : DG X g tg ns gm) (R : RelS g F0 H0 B F w S σ H) (hm : gm d S = some S') (R' : Rel g F w S' σ' H) (hw : ∀ vs, (∀ i ∈ ns, i ∈ vs) → L2.wipe σ' vs = L2.wipe σ vs) : RelS g F0 H0 B F w S' σ' H :=
  ⟨R', R.ext, R.fl, fun i ds p h1 h2 => by
    obtain ⟨a1, a2⟩ := hg.own d S S' i ds hm h1
    rw [wipe_off (hw ns fun _ z => z) a2] at h2
    exact R.fr i ds p a1 h2⟩
/-- a, b = x, y -/
def sPar (i j : Nat) (fs : AM) : SM := fun S w => (fs S w).to S fun ds w1 => match ds with
  | [d, e] => .nx ((S.set i (some (.dat d))).set j (some (.dat e))) w1
  | _ => .bad
theorem ds_par (i j : Nat) {x y : Str} {px py pt : Pos} {kt k2 : Nat} {pt2 : Pos} (hp : ∀ ta : TA, PA X [a, b] ta → PS X (.Assign [.Tuple [.Name x px, .Name y py] kt pt] (.Tuple [a, b] k2 pt2) pos) (tPar i j ta)) (ha : DA X g E [a, b] fs) :
    DS X g E F0 H0 (.Assign [.Tuple [.Name x px, .Name y py] kt pt] (.Tuple [a, b] k2 pt2) pos) (sPar i j fs) := by
  obtain ⟨t, p, r⟩ := ha.run
  refine ⟨_, hp t p, fun N σ H F S w B R h => ?_⟩
  refine r σ H _ F S w R.rel (PostG.imp (PostS.to R h) fun ds w1 _ h1 vs H1 F1 x1 r1 => ?_)
  split at h1
  · obtain ⟨v, u, rfl, h, h'⟩ := drs2 r1
    exact ⟨v, u, rfl, h1 _ H1 F1 (((R.ext' x1).set i h).set j h')⟩
  · exact h1.elim
theorem RelS.mut {F : FH} {H : Hp} {w : Bx} {S : SL} {σ : L2.St} {i : Nat} {q : Addr} {us : List V} {ds es : List D} (R : RelS g F0 H0 B F w S σ H) (hi : S[i]? = some (some (.own ds))) (hs : σ[i]? = some (some (.ref q))) (nF : F.free q) (nb : q ≠ g.bx) (r : DRs g F us es) :
    RelS g F0 H0 B F w (S.set i (some (.own es))) σ (upd H q (.lst us)) := by
  have hl : i < S.length := (List.getElem?_eq_some_iff.mp hi).1
  have hqv : ∃ vs0, H q = some (.lst vs0) := by
    obtain ⟨v, e1, q', vs', e2, _, _, hp', _⟩ := R.rel.sl i _ hi
    rw [hs] at e1; cases e1; cases e2
    exact ⟨vs', hp'⟩
  obtain ⟨vs0, hqv⟩ := hqv
  have x : Ext g F0 H0 F (upd H q (.lst us)) w := Ext.mut R.ext (R.fr i ds q hi hs) nF nb hqv (.inl ⟨_, rfl⟩)
  refine ⟨⟨x.sub, x.bx, by rw [List.length_set]; exact R.rel.len, fun j s hj => ?_, fun j k es1 es2 u h1 h2 h3 h4 => ?_⟩, x, R.fl, fun j es1 p h1 h2 => ?_⟩
  · rw [List.getElem?_set] at hj
    by_cases e : i = j
    · subst e
      rw [if_pos rfl, if_pos hl] at hj; cases hj
      exact ⟨_, hs, q, us, rfl, nF, nb, upd_same, r⟩
    · rw [if_neg e] at hj
      obtain ⟨v, e1, e2⟩ := R.rel.sl j s hj
      refine ⟨v, e1, ?_⟩
      cases s with
      | dat d => exact e2
      | own zs =>
        obtain ⟨q2, ws, e3, e4, e5, e6, e7⟩ := e2
        subst e3
        refine ⟨q2, ws, rfl, e4, e5, ?_, e7⟩
        rw [upd_ne (fun z => e ?_)]
        · exact e6
        · subst z; exact (R.rel.inj i j ds zs _ hi hj hs e1)
      | lam ls =>
        obtain ⟨p, ws, e3, e4, e5⟩ := e2
        obtain ⟨v2, k1, q2, ws2, k2, _, _, k3, _⟩ := R.rel.sl i _ hi
        rw [hs] at k1; cases k1; cases k2
        exact ⟨p, ws, e3, e4, e5.upd k3 fun _ z => by cases z⟩
      | cls c => exact e2
      | ins c fs =>
        obtain ⟨C, ws, e3, hc, n1, n2, b1, b2, g1, g2, e7⟩ := e2
        obtain ⟨v2, k1, q2, ws2, k2, _, _, k3, _⟩ := R.rel.sl i _ hi
        rw [hs] at k1; cases k1; cases k2
        have d1 : g.me ≠ q := fun z => by rw [z, k3] at g1; cases g1
        have d2 : g.md ≠ q := fun z => by rw [z, k3] at g2; cases g2
        exact ⟨C, ws, e3, hc, n1, n2, b1, b2, by rw [upd_ne d1]; exact g1, by rw [upd_ne d2]; exact g2, e7⟩
  · have key : ∀ (j : Nat) (zs : List D), (S.set i (some (.own es)))[j]? = some (some (.own zs)) → ∃ zs', S[j]? = some (some (.own zs')) := fun j zs h => by
      rw [List.getElem?_set] at h
      by_cases e : i = j
      · subst e; exact ⟨ds, hi⟩
      · rw [if_neg e] at h; exact ⟨zs, h⟩
    obtain ⟨z1, h1⟩ := key j es1 h1
    obtain ⟨z2, h2⟩ := key k es2 h2
    exact R.rel.inj j k z1 z2 u h1 h2 h3 h4
  · rw [List.getElem?_set] at h1
    by_cases e : i = j
    · subst e; exact R.fr i ds p hi h2
    · rw [if_neg e] at h1; exact R.fr j es1 p h1 h2
def ownAt (S : SL) (i : Nat) : Option (List D) := match S[i]? with
  | some (some (.own ds)) => some ds
  | _ => none
theorem ownAt_some {S : SL} {i : Nat} {ds : List D} (h : ownAt S i = some ds) : S[i]? = some (some (.own ds)) := by
  unfold ownAt at h
  split at h
  · cases h; assumption
  · cases h
def sAppend (i : Nat) (f : EM) : SM := fun S w => match ownAt S i with
  | some ds => (f S w).to S fun d w1 => if ds.length < sizeN then .nx (S.set i (some (.own (ds ++ [d])))) w1 else .bad
  | none => .bad
/-- a list that is not changed any more -/
def frz (i : Nat) (S : SL) : SL := match ownAt S i with
  | some ds => S.set i (some (.dat (.lst ds)))
  | none => S
theorem RelS.frz {F : FH} {H : Hp} {w : Bx} {S : SL} {σ : L2.St} (R : RelS g F0 H0 B F w S σ H) (i : Nat) : ∃ F', RelS g F0 H0 B F' w (Y.frz i S) σ H := by
  unfold Y.frz
  cases ho : ownAt S i with
  | none => exact ⟨F, R⟩
  | some ds =>
    have hi := ownAt_some ho
    have hl : i < S.length := (List.getElem?_eq_some_iff.mp hi).1
    obtain ⟨v, e1, q, vs, e2, nF, nb, hp, rd⟩ := R.rel.sl i _ hi
    subst e2
    have n0 := R.fr i ds q hi e1
    have x := Ext.freeze R.ext n0 nF hp nb
    have sF : FSame F (F.upd q (.lst vs)) := FSame.upd nF.1
    refine ⟨F.upd q (.lst vs), ⟨⟨x.sub, x.bx, by rw [List.length_set]; exact R.rel.len, fun j s hj => ?_, fun j k es1 es2 u h1 h2 h3 h4 => ?_⟩, x, R.fl.trans sF, fun j es1 p h1 h2 => ?_⟩⟩
    · rw [List.getElem?_set] at hj
      by_cases e : i = j
      · subst e
        rw [if_pos rfl, if_pos hl] at hj; cases hj
        exact ⟨_, e1, .lst upd_same (rd.mono sF)⟩
      · rw [if_neg e] at hj
        obtain ⟨v, e3, e4⟩ := R.rel.sl j s hj
        refine ⟨v, e3, ?_⟩
        cases s with
        | dat d => exact DR.mono sF e4
        | own zs =>
          obtain ⟨q2, ws, e5, e6, e7, e8, e9⟩ := e4
          subst e5
          refine ⟨q2, ws, rfl, ?_, e7, e8, e9.mono sF⟩
          refine e6.upd fun z => e ?_
          subst z; exact R.rel.inj i j ds zs _ hi hj e1 e3
        | lam ls =>
          obtain ⟨p, ws, e5, e6, e7⟩ := e4
          exact ⟨p, ws, e5, sF.fz _ _ e6, e7.keep sF.fz fun a z nb na hc => ⟨hc, na⟩⟩
        | cls c => exact e4
        | ins c fs =>
          obtain ⟨C, ws, e5, hc, n1, n2, b1, b2, g1, g2, e9⟩ := e4
          have d1 : g.me ≠ q := fun z => by rw [z, hp] at g1; cases g1
          have d2 : g.md ≠ q := fun z => by rw [z, hp] at g2; cases g2
          exact ⟨C, ws, e5, hc, n1.upd d1, n2.upd d2, b1, b2, g1, g2, e9.mono sF⟩
    · rw [List.getElem?_set] at h1 h2
      by_cases e : i = j
      · rw [if_pos e] at h1; split at h1 <;> cases h1
      · by_cases e2 : i = k
        · rw [if_pos e2] at h2; split at h2 <;> cases h2
        · rw [if_neg e] at h1; rw [if_neg e2] at h2; exact R.rel.inj j k es1 es2 u h1 h2 h3 h4
    · rw [List.getElem?_set] at h1
      by_cases e : i = j
      · rw [if_pos e] at h1; split at h1 <;> cases h1
      · rw [if_neg e] at h1; exact R.fr j es1 p h1 h2
def sFrz (i : Nat) (m : SM) : SM := fun S w => m (frz i S) w
theorem ds_frz (i : Nat) (h : DS X g E F0 H0 st m) : DS X g E F0 H0 st (sFrz i m) := by
  obtain ⟨t, p, r⟩ := h.run
  refine ⟨t, p, fun N σ H F S w B R h => ?_⟩
  obtain ⟨F', R'⟩ := R.frz i
  exact r N σ H F' _ w B R' h
def forLoop (gm : GM) (body : SM) : List D → SL → Bx → RS
  | [], S, w => .nx S w
  | d :: ds, S, w => match gm d S with
    | none => .bad
    | some S1 => match body S1 w with
      | .nx S2 w2 => forLoop gm body ds S2 w2
      | .ct S2 w2 => forLoop gm body ds S2 w2
      | .bk S2 w2 => .nx S2 w2
      | r => r
def sFor (fi : AM) (gm : GM) (body : SM) : SM := fun S w => (fi S w).to S fun ds w1 => forLoop gm body ds S w1
theorem ds_for {tg iter : Expr} {body : List Stmt} {fi : AM} {gm : GM} {ns : List Nat} (hp : PassesOwn (model X.prog X.w) X.A X.env X.xe) (hc : X.calm = true) (hi : DI X g E tg iter fi) (hg : DG X g tg ns gm) (hb : DSs X g E F0 H0 body m)
    (hq : PassesOwn (model X.prog X.w) X.A X.env X.xe → X.calm = true → ∀ (wi : TI) (g : TG) (tb : TS), PI X tg iter wi → PG X tg g → PSs X body tb → PS X (.For tg iter body [] pos) (tFor wi g tb) := by exact fun hp hc _ _ _ h1 h2 h3 => ps_for hp hc h1 h2 h3) : DS X g E F0 H0 (.For tg iter body [] pos) (sFor fi gm m) := by
  obtain ⟨wi, pi, ri⟩ := hi.run
  obtain ⟨tg', pg, rg⟩ := hg.run
  obtain ⟨tb, pb, rb⟩ := hb.run
  refine ⟨_, hq hp hc _ _ _ pi pg pb, fun N σ H F S w B R h => ?_⟩
  refine ri σ H _ F S w R.rel (PostG.imp (PostS.to R h) fun ds w1 _ h1 J H1 F1 x1 yl => ?_)
  have sB : FSame B F1 := R.fl.trans x1.ff
  have R1 : RelS g F0 H0 F1 F1 w1 S σ H1 := { R.ext' x1 with fl := FSame.refl F1 }
  refine ⟨fun i k σ2 H2 => ∃ F2 S2 w2, RelS g F0 H0 F1 F2 w2 S2 σ2 H2 ∧ i + k = ds.length ∧ PostS g F0 H0 B E N (forLoop gm m (ds.drop i) S2 w2), ⟨ds.length, F1, S, w1, R1, by omega, h1⟩, fun i k σ2 H2 hW => ?_⟩
  obtain ⟨F2, S2, w2, R2, hik, hpost⟩ := hW
  have lower : ∀ {F S w σ H}, RelS g F0 H0 F1 F w S σ H → RelS g F0 H0 B F w S σ H := fun r => { r with fl := sB.trans r.fl }
  cases hd : ds[i]? with
  | none =>
    have hle : ds.length ≤ i := List.getElem?_eq_none_iff.mp hd
    rw [List.drop_eq_nil_of_le hle] at hpost
    have hie : i = ds.length := by omega
    exact .inl ⟨hie ▸ yl.stop F2 H2 R2.fl R2.rel.sub, hpost σ2 H2 F2 (lower R2)⟩
  | some d =>
    obtain ⟨hlt, hde⟩ := List.getElem?_eq_some_iff.mp hd
    obtain ⟨hgo, hyl⟩ := yl.go i d F2 H2 R2.fl R2.rel.sub hd
    rw [List.drop_eq_getElem_cons hlt, hde] at hpost
    refine .inr ⟨hgo, fun σ3 H3 => ∃ F3 S3 w3, RelS g F0 H0 F1 F3 w3 S3 σ3 H3 ∧ PostS g F0 H0 B E N (forLoop gm m (ds.drop (i + 1)) S3 w3), fun σ3 H3 hN => ?_, fun x H3 hx => ?_⟩
    · obtain ⟨F3, S3, w3, b1, b3⟩ := hN
      exact ⟨k - 1, by omega, F3, S3, w3, b1, by omega, b3⟩
    · have item : ∃ F3, Ext g F2 H2 F3 H3 w2 ∧ DR g F3 x d := by
        rcases hyl x H3 hx with ⟨e1, r1⟩ | ⟨T, xs, es, e1, nT, e2, r1, e3⟩
        · subst e1; exact ⟨F2, Ext.refl R2.rel.sub R2.rel.bx, r1⟩
        · subst e1 e2 e3
          exact ⟨_, Ext.lay R2.rel.sub R2.rel.bx nT, .tup (.inl (.inl upd_same)) (r1.mono (Ext.lay R2.rel.sub R2.rel.bx nT).ff)⟩
      obtain ⟨F3, x3, rx⟩ := item
      unfold forLoop at hpost
      cases hm : gm d S2 with
      | none => rw [hm] at hpost; exact hpost.elim
      | some S3 =>
        rw [hm] at hpost
        have R3 := R2.ext' x3
        refine rg x σ2 H3 _ F3 S2 w2 d S3 R3.rel rx hm fun σ3 Rl hw => ?_
        refine rb _ σ3 H3 F3 S3 w2 F1 (R3.tgt hg hm Rl hw) ?_
        cases hbd : m S3 w2 with
        | nx S4 w4 => simp only [hbd] at hpost; exact fun σ4 H4 F4 R4 => ⟨F4, S4, w4, R4, hpost⟩
        | ct S4 w4 => simp only [hbd] at hpost; exact fun σ4 H4 F4 R4 => ⟨F4, S4, w4, R4, hpost⟩
        | bk S4 w4 => simp only [hbd] at hpost; exact fun σ4 H4 F4 R4 => hpost σ4 H4 F4 (lower R4)
        | rt d w4 => simp only [hbd] at hpost; exact hpost
        | err S4 c fs w4 => simp only [hbd] at hpost; exact fun σ4 H4 F4 R4 => hpost σ4 H4 F4 (lower R4)
        | bad => simp only [hbd] at hpost; exact hpost
end
def startS (n : Nat) (ds : List D) : SL := ds.map (fun d => some (.dat d)) ++ List.replicate (n - ds.length) none
def runF (k n : Nat) (body : SM) : List D → Bx → R D := fun ds w => if ds.length = k then (match body (startS n ds) w with
  | .nx _ w1 => .ok .non w1
  | .rt d w1 => .ok d w1
  | .err _ c fs w1 => .err c fs w1
  | _ => .bad) else .bad
section
variable {P : Program} {w : World} {K : PySem.W.Frag} {mg : Str → Option Value} {base : Heap} {cls : CT}
theorem rel_start {g : G} {F : FH} {H : Hp} {w : Bx} {vs : List V} {ds : List D} {N : List Str} (s : Same F H) (b : BxOk g F w H) (r : DRs g F vs ds) : RelS g F H F F w (startS N.length ds) (start N vs) H := by
  have key : ∀ (i : Nat) (x : SV), (startS N.length ds)[i]? = some (some x) → ∃ d v, x = .dat d ∧ (start N vs)[i]? = some (some v) ∧ DR g F v d := fun i x hx => by
    unfold startS at hx
    unfold L2.start
    rw [List.getElem?_append] at hx ⊢
    simp only [List.length_map] at hx ⊢
    rw [r.length]
    by_cases hi : i < ds.length
    · rw [if_pos hi] at hx ⊢
      rw [List.getElem?_map] at hx ⊢
      obtain ⟨d, hd, e⟩ := Option.map_eq_some_iff.mp hx
      cases e
      obtain ⟨v, hv, rv⟩ := r.get hd
      exact ⟨d, v, rfl, by rw [hv]; rfl, rv⟩
    · rw [if_neg hi, List.getElem?_replicate] at hx
      split at hx <;> cases hx
  refine ⟨⟨s, b, ?_, fun i x hx => ?_, fun i j ds1 ds2 v h1 => ?_⟩, Ext.refl s b, FSame.refl F, fun i ds1 p h1 => ?_⟩
  · unfold startS L2.start
    simp [r.length]
  · obtain ⟨d, v, rfl, h1, h2⟩ := key i x hx
    exact ⟨v, h1, h2⟩
  · obtain ⟨d, _, e, _⟩ := key i _ h1; cases e
  · obtain ⟨d, _, e, _⟩ := key i _ h1; cases e
/-- the code object of a def -/
def CodeIs (K : PySem.W.Frag) (f : Addr) (cdv : Value) : Prop := ∃ oc od fd osl, K.lookup f = some ⟨oc, od, .func fd, osl⟩ ∧ fd.code = cdv
theorem okC {x qual : Str} {st : Stmt} {f : Addr} {fd : FuncData} {N ps : List Str} {k : Nat} {sp : Sp} (F : Fun K x qual st f fd) (S : FnScope N ps (defScope st)) (ln : ∀ vs H Q E, sp vs H Q E → vs.length = ps.length)
    (hb : ∀ (cdv : Value), CodeIs K f cdv → ∀ (A : Around) (outer : List Env) (s : Shared) (H : Hp) (vs : List V) (Q : VK) (E : XK), Room k (A.deeper (envOfC qual (defScope st) s.heap.objs.size f cdv)) → sp vs H Q E → ∃ t, PSs (cxOf (L2N.CX P w) P w K mg base N qual (defScope st) f cdv A outer s H E) (defBody st) t ∧ t { nx := fun _ H' => Q .non H', rt := Q } (start N vs) H) :
    FnOk P w K mg base (L2N.CX P w) (k + 1) f fd ps sp := by
  obtain ⟨oc, od, kV, dc, pm, an, cv, ct, sl, rfl, lk, hcd⟩ := F.ex
  exact fn_of lk hcd S ln fun A outer s H vs Q E hr h => hb cv ⟨_, _, _, _, lk, rfl⟩ A outer s H vs Q E hr h
theorem okXN {x qual : Str} {st : Stmt} {f : Addr} {fd : FuncData} {N ps : List Str} {k : Nat} {sp : Sp} (F : Fun K x qual st f fd) (S : FnScope N ps (defScope st)) (ln : ∀ vs H Q E, sp vs H Q E → vs.length = ps.length)
    (hb : ∀ (cdv : Value) (A : Around) (outer : List Env) (s : Shared) (H : Hp) (vs : List V) (Q : VK) (E : XK), Room k (A.deeper (envOfC qual (defScope st) s.heap.objs.size f cdv)) → sp vs H Q E → ∃ t, PSs (cxOf (L2N.CX P w) P w K mg base N qual (defScope st) f cdv A outer s H E) (defBody st) t ∧ t { nx := fun _ H' => Q .non H', rt := Q } (start N vs) H) :
    FnOk P w K mg base (L2N.CX P w) (k + 1) f fd ps sp := okC F S ln fun cdv _ => hb cdv
theorem cal_of {x : Str} {st : Stmt} {f : Addr} {fd : FuncData} {N ps : List Str} {k : Nat} {m : List D → Bx → R D} {body : SM} (F : Fun K x x st f fd) (S : FnScope N ps (defScope st)) (hmg : mg x = some (.ref f)) (hb : Binds K fd ps [])
    (hbody : ∀ (cdv : Value), CodeIs K f cdv → ∀ (A : Around) (outer : List Env) (s : Shared) (H : Hp) (E : XK) (bx : BQ) (F0 : FH), Room k (A.deeper (envOfC x (defScope st) s.heap.objs.size f cdv)) →
      DSs (cxOf (L2N.CX P w) P w K mg base N x (defScope st) f cdv A outer s H E) ⟨K, cls, bx⟩ (kE E) F0 H (defBody st) body)
    (hm : ∀ ds w, m ds w ≠ .bad → runF ps.length N.length body ds w = m ds w) : Cal P w K mg base cls x (k + 1) ps.length m := by
  refine ⟨f, fd, ps, okC F S (fun vs H Q E h => h.1) (fun cdv hcv A outer s H vs Q E hr h => ?_), hmg, F.kp, hb⟩
  obtain ⟨hl, bx, F0, ds, w0, s1, b1, rd, hp⟩ := h
  obtain ⟨t, pt, rt⟩ := (hbody cdv hcv A outer s H E bx F0 hr).run
  refine ⟨t, pt, rt _ (start N vs) H F0 (startS N.length ds) w0 F0 (rel_start s1 b1 rd) ?_⟩
  have hnb : m ds w0 ≠ .bad := fun e => by rw [e] at hp; exact hp
  have e := hm ds w0 hnb
  rw [← e] at hp
  unfold runF at hp
  rw [if_pos (by rw [← rd.length]; exact hl)] at hp
  cases hbd : body (startS N.length ds) w0 with
  | nx S1 w1 => simp only [hbd] at hp; exact fun σ' H' F' R' => hp .non H' F' R'.ext .non
  | rt d w1 => simp only [hbd] at hp; exact hp
  | bk S1 w1 => simp only [hbd] at hp; exact hp.elim
  | ct S1 w1 => simp only [hbd] at hp; exact hp.elim
  | err S1 c fs w1 => simp only [hbd] at hp; exact fun σ' H' F' R' cl a vs n k l r => hp cl a vs H' F' R'.ext n k l r
  | bad => simp only [hbd] at hp; exact hp
end
end Y
namespace Y
open PySem PySem.Spec PyProof.Rows L2
theorem u65 {k : Nat} {A : Around} (r : Room k A) : A.units + 65 < cLine := by have := r.un; omega
theorem u64 {k : Nat} {A : Around} (r : Room k A) : A.units + 64 < cLine := r.units
def bxGet (w : Bx) : Int → Option D
  | 0 => some (.lst (w.cells.map .int))
  | 1 => some (.int (w.ix : Int))
  | 2 => some (.int w.big)
  | 3 => some (.int w.mark)
  | _ => none
def bxPut (w : Bx) (k : Int) (d : D) : Option Bx := match d with
  | .int i => if k = 1 then (if 0 ≤ i then some { w with ix := i.toNat } else none)
    else if k = 2 then (if 0 ≤ i then some { w with big := i } else none)
    else if k = 3 then (if 0 ≤ i ∧ i < 2147483647 then some { w with mark := i } else none) else none
  | _ => none
def isBox (S : SL) (i : Nat) : Bool := match S[i]? with
  | some (some (.dat .box)) => true
  | _ => false
theorem isBox_at {S : SL} {i : Nat} (h : isBox S i = true) : S[i]? = some (some (.dat .box)) := by
  unfold isBox at h
  split at h
  · assumption
  · cases h
def eBx (i : Nat) (k : Int) : EM := fun S w => if isBox S i then R.ofO (bxGet w k) w else .bad
section
variable {X : Cx} {g : G} {E : EK} {F0 : FH} {H0 : Hp} {B : FH} {e a b c : Expr} {es : List Expr} {pos p p2 : Pos} {fa fb fc f : EM} {fs : AM} {m : SM}
theorem drs_ints {F : FH} : ∀ ns : List Int, DRs g F (ns.map V.int) (ns.map D.int)
  | [] => .nil
  | n :: ns => .cons (.int n) (drs_ints ns)
theorem de_bx (i : Nat) (k : Int) {x : Str} {px pk : Pos} {j : Nat} (hK : g.K = X.K) (hN : X.N[i]? = some x := by rfl) (hv : Vis X.env.scope x := by first | exact Or.inl rfl | exact Or.inr (Or.inl rfl) | exact Or.inr (Or.inr rfl)) (hd : (x == ("__debug__" : Str)) = false := by decide)
    (hcd : (x == ("__classdict__" : Str)) = false := by decide) (hs : PlainIx (.Constant (.int k) j pk) := by exact fun _ _ => rfl) : DE X g E (.Subscript (.Name x px) (.Constant (.int k) j pk) pos) (eBx i k) := by
  refine ⟨_, pe_ix ix_list (pe_var hN hv hd hcd) pe_int hs, fun σ H Q F S w R h => ?_⟩
  unfold eBx at h
  by_cases hb : isBox S i = true
  · rw [if_pos hb] at h
    obtain ⟨v, e1, e2⟩ := R.sl i _ (isBox_at hb)
    cases e2
    obtain ⟨c, h1, h2⟩ := R.bx.at_
    obtain ⟨z, hz, q⟩ := post_ofO h
    refine ⟨_, e1, ?_⟩
    have hsq : SqL X.K H g.bx [.ref c, .int (w.ix : Int), .int w.big, .int w.mark] := .inl (.inl h1)
    unfold bxGet at hz
    split at hz
    · cases hz; exact ⟨_, _, _, _, rfl, rfl, hsq, rfl, q _ H F R.ex (.lst h2 (drs_ints _))⟩
    · cases hz; exact ⟨_, _, _, _, rfl, rfl, hsq, rfl, q _ H F R.ex (.int _)⟩
    · cases hz; exact ⟨_, _, _, _, rfl, rfl, hsq, rfl, q _ H F R.ex (.int _)⟩
    · cases hz; exact ⟨_, _, _, _, rfl, rfl, hsq, rfl, q _ H F R.ex (.int _)⟩
    · cases hz
  · rw [if_neg hb] at h; exact h.elim
def sBx (i : Nat) (k : Int) (f : EM) : SM := fun S w => (f S w).to S fun d w1 => if isBox S i then (match bxPut w1 k d with
  | some w2 => .nx S w2
  | none => .bad) else .bad
theorem BxOk.reb {F : FH} {H : Hp} {w w' : Bx} {xs : List V} (b : BxOk g F w H) (h : ∃ c, upd H g.bx (.lst xs) g.bx = some (.lst [.ref c, .int (w'.ix : Int), .int w'.big, .int w'.mark]) ∧ F c = some (.lst (w'.cells.map V.int))) (h1 : 0 ≤ w'.big) (h2 : 0 ≤ w'.mark) (h3 : w'.mark < 2147483647) (h4 : w'.cells.length ≤ 63) (hs : w'.st = w.st := by rfl) : BxOk g F w' (upd H g.bx (.lst xs)) := by
  have kx : ∀ a o, (∀ vs, o ≠ .lst vs) → H a = some o → upd H g.bx (.lst xs) a = some o := fun a o n q => by
    rw [upd_ne (fun e => ?_)]
    · exact q
    · obtain ⟨c, z, _⟩ := b.at_
      rw [e, z] at q; cases q; exact n _ rfl
  refine ⟨h, b.no, h1, h2, h3, h4, fun i c q => ?_, by rw [hs]; exact b.adl, b.inj, Tabs.keep b.tabs (fun a o n _ _ q => kx a o n q), b.ntb⟩
  rw [hs] at q
  obtain ⟨a, e1, e2, e3, e4⟩ := b.cel i c q
  exact ⟨a, e1, e2, e3, e4.keep (FSame.refl F) (upd_ne e3) fun b x q => kx b _ (fun _ z => by cases z) q⟩
/-- the box alone turns -/
theorem RelS.box {F : FH} {H : Hp} {w w' : Bx} {S : SL} {σ : L2.St} {xs : List V} (R : RelS g F0 H0 B F w S σ H) (b : BxOk g F w' (upd H g.bx (.lst xs))) : RelS g F0 H0 B F w' S σ (upd H g.bx (.lst xs)) := by
  have hF : ∀ a o, F a = some o → a ≠ g.bx := fun a o h e => by rw [e, R.rel.bx.no] at h; cases h
  have sub : Same F (upd H g.bx (.lst xs)) := fun a o h => by rw [upd_ne (hF a o h)]; exact R.rel.sub a o h
  refine ⟨⟨sub, b, R.rel.len, fun i s hs => ?_, R.rel.inj⟩, ⟨R.ext.ff, fun a o n nc nt h => ?_, fun a h => R.ext.dom a (upd_dom h), R.ext.new, R.ext.nad, sub, b, fun a od u h => ?_⟩, R.fl, R.fr⟩
  · obtain ⟨v, e1, e2⟩ := R.rel.sl i s hs
    refine ⟨v, e1, ?_⟩
    cases s with
    | dat d => exact e2
    | own ds =>
      obtain ⟨q, vs, e3, e4, e5, e6, e7⟩ := e2
      exact ⟨q, vs, e3, e4, e5, by rw [upd_ne e5]; exact e6, e7⟩
    | lam ls =>
      obtain ⟨p, vs, e3, e4, e5⟩ := e2
      obtain ⟨c0, hb0, _⟩ := R.rel.bx.at_
      exact ⟨p, vs, e3, e4, e5.upd hb0 fun _ z => by cases z⟩
    | cls c => exact e2
    | ins c fs =>
      obtain ⟨C, vs, e3, hc, n1, n2, b1, b2, g1, g2, e7⟩ := e2
      exact ⟨C, vs, e3, hc, n1, n2, b1, b2, by rw [upd_ne b1]; exact g1, by rw [upd_ne b2]; exact g2, e7⟩
  · rw [upd_ne n]; exact R.ext.hh a o n nc nt h
  · obtain ⟨c0, hb0, _⟩ := R.rel.bx.at_
    have := R.ext.frz a od u h
    rw [upd_ne fun e => by rw [e, hb0] at this; cases this]; exact this
theorem ds_bx (i : Nat) (k : Int) {x : Str} {px pk tpos : Pos} {j : Nat} (ha : DE X g E a f) (hN : X.N[i]? = some x := by rfl) (hv : Vis X.env.scope x := by first | exact Or.inl rfl | exact Or.inr (Or.inl rfl) | exact Or.inr (Or.inr rfl)) (hd : (x == ("__debug__" : Str)) = false := by decide)
    (hcd : (x == ("__classdict__" : Str)) = false := by decide)
    (hq : ∀ (to ti te : TE), PE X (.Name x px) to → PE X (.Constant (.int k) j pk) ti → PE X a te → PS X (.Assign [.Subscript (.Name x px) (.Constant (.int k) j pk) tpos] a pos) (tAsg te (gSub to ti rSetL)) := by exact fun _ _ _ h1 h2 h3 => ps_asg h3 (pg_sub h1 h2 set_list)) :
    DS X g E F0 H0 (.Assign [.Subscript (.Name x px) (.Constant (.int k) j pk) tpos] a pos) (sBx i k f) := by
  obtain ⟨t, pa, r⟩ := ha.run
  refine ⟨_, hq _ _ _ (pe_var hN hv hd hcd) pe_int pa, fun N σ H F S w B R h => ?_⟩
  refine r σ H _ F S w R.rel (PostG.imp (PostS.to R h) fun d w1 _ h1 v H1 F1 x1 r1 => ?_)
  have R1 := R.ext' x1
  by_cases hb : isBox S i = true
  · rw [if_pos hb] at h1
    obtain ⟨u, e1, e2⟩ := R1.rel.sl i _ (isBox_at hb)
    cases e2
    obtain ⟨c, hB, hC⟩ := R1.rel.bx.at_
    have b1 := R1.rel.bx
    refine ⟨_, e1, ?_⟩
    cases r1 with
    | int n =>
      unfold bxPut at h1
      by_cases k1 : k = 1
      · subst k1
        simp only [if_true] at h1
        by_cases hn : 0 ≤ n
        · simp only [if_pos hn] at h1
          refine ⟨_, _, 1, 1, rfl, rfl, hB, rfl, h1 _ _ F1 (R1.box (b1.reb ⟨c, ?_, hC⟩ (b1.big0) (b1.mk0) (b1.mk1) (b1.nc)))⟩
          rw [upd_same]
          simp only [List.set]
          rw [show ((n.toNat : Nat) : Int) = n by omega]
        · simp only [if_neg hn] at h1; exact h1.elim
      · simp only [if_neg k1] at h1
        by_cases k2 : k = 2
        · subst k2
          simp only [if_true] at h1
          by_cases hn : 0 ≤ n
          · simp only [if_pos hn] at h1
            exact ⟨_, _, 2, 2, rfl, rfl, hB, rfl, h1 _ _ F1 (R1.box (b1.reb ⟨c, upd_same, hC⟩ (hn) (b1.mk0) (b1.mk1) (b1.nc)))⟩
          · simp only [if_neg hn] at h1; exact h1.elim
        · simp only [if_neg k2] at h1
          by_cases k3 : k = 3
          · subst k3
            simp only [if_true] at h1
            by_cases hn : 0 ≤ n ∧ n < 2147483647
            · simp only [if_pos hn] at h1
              exact ⟨_, _, 3, 3, rfl, rfl, hB, rfl, h1 _ _ F1 (R1.box (b1.reb ⟨c, upd_same, hC⟩ (b1.big0) (hn.1) (hn.2) (b1.nc)))⟩
            · simp only [if_neg hn] at h1; exact h1.elim
          · simp only [if_neg k3] at h1; exact h1.elim
    | _ => exact h1.elim
  · rw [if_neg hb] at h1; exact h1.elim
end
end Y
namespace Y
open PySem PySem.Spec PyProof.Rows L2
def Def (K : PySem.W.Frag) (mg : Str → Option Value) (x : Str) (st : Stmt) (ps : List Str) : Prop := ∃ f fd, Fun K x x st f fd ∧ mg x = some (.ref f) ∧ Binds K fd ps []
def spOpen (K : PySem.W.Frag) : Sp := fun vs H Q _ => ∃ (a : Addr) (ns : List Int), vs = [.ref a] ∧ SqL K H a (ns.map V.int) ∧ ns.length ≤ 63 ∧
  ∀ (b c : Addr) (mk : Int) (H' : Hp), Same H H' → b ≠ c → H' b = some (.lst [.ref c, .int 0, .int 0, .int mk]) → H' c = some (.lst (ns.map V.int)) → 0 ≤ mk → mk < 2147483647 → Q (.ref b) H'
def spLaw (K : PySem.W.Frag) (tb : List (Addr × Str)) : Sp := fun vs H Q _ => ∃ (a : Addr) (ns : List Int), vs = [.ref a] ∧ SqL K H a (ns.map V.int) ∧ ns.length ≤ 63 ∧ LamX.Tabs tb H ∧ ∀ H', Q (.bl true) H'
def tSemS (K : PySem.W.Frag) (cls : CT) (cl : List (Str × Addr)) (E : EK) (m : SM) : TS := fun N σ H => ∃ bx F0 H0 B F S w, bx.2.2.2 = cl ∧ RelS ⟨K, cls, bx⟩ F0 H0 B F w S σ H ∧ PostS ⟨K, cls, bx⟩ F0 H0 B E N (m S w)
section
variable {P : Program} {w : World} {K : PySem.W.Frag} {mg : Str → Option Value} {base : Heap} {cls : CT}
theorem pss_sem {X : Cx} {E : EK} {sts : List Stmt} {m : SM} {cl : List (Str × Addr)} (h : ∀ bx F0 H0, bx.2.2.2 = cl → DSs X ⟨K, cls, bx⟩ E F0 H0 sts m) : PSs X sts (tSemS K cls cl E m) :=
  ⟨fun pins s σ H N I ⟨bx, F0, H0, B, F, S, w, hcl, R, q⟩ => let ⟨_, p, r⟩ := (h bx F0 H0 hcl).run; p.run pins s σ H N I (r N σ H F S w B R q)⟩
/-- the slots at the box's making: the script is not looked at again -/
def lawS (n : Nat) : SL := none :: some (.dat .box) :: List.replicate (n - 2) none
theorem lawS_get {n i : Nat} {sv : SV} (h : (lawS n)[i]? = some (some sv)) : i = 1 ∧ sv = .dat .box := by
  cases i with
  | zero => simp [lawS] at h
  | succ i =>
    cases i with
    | zero => simp [lawS] at h; exact ⟨rfl, h.symm⟩
    | succ i =>
      have h2 : (List.replicate (n - 2) (none : Option SV))[i]? = some (some sv) := h
      rw [List.getElem?_replicate] at h2
      split at h2 <;> cases h2
theorem law_of {x y : Str} {st fst : Stmt} {f : Addr} {fd : FuncData} {N : List Str} {k : Nat} {body : SM} {rest : List Stmt} (F : Fun K x x st f fd) (S : FnScope N [y] (defScope st)) (hN : ∃ N', N = y :: "_law_box" :: N')
    (hst : defBody st = fst :: rest)
    (hfirst : ∀ (cdv : Value) (A : Around) (outer : List Env) (s : Shared) (H : Hp) (E : XK), Room k (A.deeper (envOfC x (defScope st) s.heap.objs.size f cdv)) →
      PS (cxOf (L2N.CX P w) P w K mg base N x (defScope st) f cdv A outer s H E) fst (tAsg (tCall (spOpen K) [] E0 (tCons (tVar 0) tNil)) (gName 1)))
    (hbody : ∀ (cdv : Value), CodeIs K f cdv → ∀ (A : Around) (outer : List Env) (s : Shared) (H : Hp) (E : XK) (bx : BQ) (F0 : FH) (H0 : Hp), bx.2.2.2 = (envOfC x (defScope st) s.heap.objs.size f cdv).cells → Room k (A.deeper (envOfC x (defScope st) s.heap.objs.size f cdv)) →
      DSs (cxOf (L2N.CX P w) P w K mg base N x (defScope st) f cdv A outer s H E) ⟨K, cls, bx⟩ (kE E) F0 H0 rest body)
    (hm : ∀ w : Bx, w.st = [] → ∃ w', body (lawS N.length) w = .rt (.bl true) w') : FnOk P w K mg base (L2N.CX P w) (k + 1) f fd [y] (spLaw K cls.tb) := by
  obtain ⟨N', rfl⟩ := hN
  refine okC F S (fun vs H Q E h => ?_) (fun cdv hcv A outer s H vs Q E hr h => ?_)
  · obtain ⟨a, ns, rfl, _⟩ := h; rfl
  · obtain ⟨a, ns, rfl, hS, hl, ht, q⟩ := h
    rw [hst]
    refine ⟨_, pss_cons (hfirst cdv A outer s H E hr) (pss_sem (cl := (envOfC x (defScope st) s.heap.objs.size f cdv).cells) fun bx F0 H0 hcl => hbody cdv hcv A outer s H E bx F0 H0 hcl hr), ?_⟩
    refine ⟨.ref a, rfl, a, ns, rfl, hS, hl, fun b c mk H1 sm nbc hb hc m0 m1 => ?_⟩
    have hsub : Same (fun z => if z = c then some (HO.lst (ns.map V.int)) else none) H1 := fun z o h => by
      by_cases e : z = c
      · simp only [if_pos e] at h; rw [e, hc]; exact h
      · simp only [if_neg e] at h; cases h
    have hbx : BxOk ⟨K, cls, (b, 0, 0, (envOfC x (defScope st) s.heap.objs.size f cdv).cells)⟩ ⟨fun z => if z = c then some (HO.lst (ns.map V.int)) else none, fun _ => none⟩ ⟨ns, 0, 0, mk, []⟩ H1 :=
      ⟨⟨c, hb, by simp⟩, by simp [nbc], Int.le_refl 0, m0, m1, hl, fun i c h => by simp at h, (fun i a h => nomatch h), (fun i j a h => nomatch h), ht.ext sm, fun a ps h => by
        simp only at h
        split at h <;> cases h⟩
    refine ⟨(b, 0, 0, (envOfC x (defScope st) s.heap.objs.size f cdv).cells), _, H1, _, _, lawS (y :: "_law_box" :: N').length, ⟨ns, 0, 0, mk, []⟩, rfl, ⟨⟨hsub, hbx, ?_, fun i sv hsv => ?_, fun i j ds ds2 v h1 => ?_⟩, Ext.refl hsub hbx, FSame.refl _, fun i ds p h1 => ?_⟩, ?_⟩
    · simp [lawS, L2.start]
    · obtain ⟨rfl, rfl⟩ := lawS_get hsv
      exact ⟨.ref b, by simp [L2.start], DR.box (g := ⟨K, cls, (b, 0, 0, (envOfC x (defScope st) s.heap.objs.size f cdv).cells)⟩)⟩
    · cases (lawS_get h1).2
    · cases (lawS_get h1).2
    · obtain ⟨w', e⟩ := hm ⟨ns, 0, 0, mk, []⟩ rfl
      rw [e]
      intro v H' F' x r
      cases r
      exact q H'
end
theorem cx_false {P : Program} {w : World} {l : List Env} {H : Hp} {s : Shared} {e : Value} {s' : Shared} (h : L2N.CX P w l H s (fun _ _ _ => False) e s') : False := by
  obtain ⟨_, _, _, _, _, _, _, _, _, _, _, _, z⟩ := h
  exact z
theorem cut63 {ns : List Int} (h : ns.length ≤ 63) : cutV (ns.map V.int) none (some 63) = ns.map V.int := by
  unfold cutV
  rw [HT.sIx_none, show HT.sIx (ns.map V.int).length (ns.map V.int).length (some 63) = min 63 (ns.map V.int).length from HT.sIx_nat _ _ 63]
  rw [List.length_map, List.drop_zero, Nat.sub_zero]
  apply List.take_of_length_le
  rw [List.length_map]
  omega
end Y
namespace Y
open PySem PySem.Spec PyProof.Rows L2
section
variable {X : Cx} {g : G} {E : EK} {a : Expr} {pos p : Pos} {fa : EM}
end
end Y
namespace Y
open PySem PySem.Spec PyProof.Rows L2
section
variable {X : Cx} {g : G} {E : EK} {b c : Expr} {fb fc : EM} {x : Str} {p pos apos : Pos} {t : List (Str × Str)}
end
end Y
namespace Y
open PySem PySem.Spec PyProof.Rows L2
section
variable {X : Cx} {g : G} {E : EK} {e : Expr} {f : EM} {te : TE} {k : Nat} {p1 p2 p3 pos : Pos}
end
end Y
namespace Y
open PySem PySem.Spec PyProof.Rows L2
theorem u1 {k : Nat} {A : Around} (r : Room k A) : A.units + 1 < cLine := by have := r.un; omega
section
variable {X : Cx} {g : G} {E : EK} {e a b c : Expr} {pos p apos : Pos} {fa fb fc f : EM}
end
end Y
namespace Y
open PySem PySem.Spec PyProof.Rows L2
section
variable {g : G} {F : FH}
end
section
variable {X : Cx} {g : G} {E : EK} {e e2 a b o : Expr} {es : List Expr} {pos p p2 apos : Pos} {fa fb fo f : EM} {fs : AM} {x c m : Str} {k n : Nat} {mm : List D → Bx → R D}
end
end Y
namespace Y
open PySem PySem.Spec PyProof.Rows L2
section
variable {P : Program} {w : World} {K : PySem.W.Frag} {mg : Str → Option Value} {base : Heap} {cls : CT}
end
section
variable {X : Cx} {g : G} {E : EK} {e a b o : Expr} {es : List Expr} {pos p p2 apos : Pos} {fs : AM} {x c : Str} {k : Nat} {n : Nat → Bool} {m : List D → Bx → R (List (Str × D))}
end
section
variable {X : Cx} {g : G} {E : EK} {F0 : FH} {H0 : Hp} {B : FH} {e a b o : Expr} {es : List Expr} {pos p p2 apos : Pos} {fe : EM} {x c f : Str}
end
end Y
namespace Y
open PySem PySem.Spec PyProof.Rows L2
section
variable {X : Cx} {g : G} {E : EK} {e a b o : Expr} {es : List Expr} {pos p p2 apos : Pos} {fs : AM} {fa : EM} {x c : Str} {k : Nat} {n : Nat → Bool} {m : List D → Bx → R (List (Str × D))}
end
section
variable {P : Program} {w : World} {K : PySem.W.Frag} {mg : Str → Option Value} {base : Heap} {cls : CT}
end
section
variable {X : Cx} {g : G} {E : EK} {e a b o : Expr} {es : List Expr} {pos p p2 apos : Pos} {fs : AM} {fo : EM} {x c : Str} {k n : Nat} {mm : List D → Bx → R D}
end
end Y
namespace Y
open PySem PySem.Spec PyProof.Rows L2
section
variable {X : Cx} {g : G} {E : EK} {e a b o : Expr} {es : List Expr} {pos p p2 apos : Pos} {fs : AM} {fa fb fo : EM} {x c m : Str} {k n : Nat} {mm : List D → Bx → R D}
end
end Y
namespace Y
open PySem PySem.Spec PyProof.Rows L2
end Y
namespace PySem
open Sem (wp)
open AutoSeq1 (wpAny_loadPart')
end PySem
namespace Y
open PySem PySem.Spec PyProof.Rows L2
section
variable {X : Cx} {g : G} {E : EK} {a : Expr} {pos p : Pos} {fa : EM}
end
end Y
namespace Y
open PySem PySem.Spec PyProof.Rows L2
/-- the classes are names of the module -/
def clsOf (mg : Str → Option Value) (tb : List (Addr × Str)) : CT := ⟨fun c => match mg c with
  | some (.ref a) => some a
  | _ => none, tb⟩
section
variable {P : Program} {w : World} {K : PySem.W.Frag} {mg : Str → Option Value} {base : Heap} {cls : CT}
end
end Y
namespace Y
open PySem PySem.Spec PyProof.Rows L2
section
variable {X : Cx} {g : G} {pos : Pos}
end
end Y
namespace Y
open PySem PySem.Spec PyProof.Rows L2
section
variable {X : Cx} {g : G} {E : EK} {e a b o : Expr} {es : List Expr} {pos p p2 apos : Pos} {fs : AM} {f fa fb fo : EM} {x c m : Str} {k n : Nat} {mm : List D → Bx → R D}
end
end Y
namespace Y
open PySem PySem.Spec PyProof.Rows L2
section
variable {X : Cx} {g : G} {E : EK} {e a b o : Expr} {es : List Expr} {pos p p2 apos p1 p3 : Pos} {fs : AM} {f fa fb fo : EM} {x c m : Str} {k n : Nat} {mm : List D → Bx → R D} {te : TE}
end
end Y
namespace Y
open PySem PySem.Spec PyProof.Rows L2
section
variable {M : Model} {prog : Program} {w : World} {A : Around} {E : Value → Shared → Prop} {s : Shared} {K : PySem.W.Frag} {x C f : Addr} {b : Value} {ox : Obj} {od : Option Obj}
end
section
variable {X : Cx} {g : G} {E : EK} {e a b o : Expr} {pos p p2 : Pos} {f fa fb fo : EM} {x c m : Str} {k n : Nat} {mm : List D → Bx → R D}
end
end Y
namespace Y
open PySem PySem.Spec PyProof.Rows L2
section
variable {X : Cx} {g : G} {E : EK} {e : Expr} {es : List Expr} {pos p : Pos} {fs : AM}
end
end Y
namespace Y
open PySem PySem.Spec PyProof.Rows L2
def tx (l : List Nat) : Str := ⟨l.toArray⟩
@[simp] theorem tx_list (l : List Nat) : (tx l).cps.toList = l := by simp [tx]
@[simp] theorem tx_len (l : List Nat) : (tx l).length = l.length := by simp [tx, Str.length]
theorem tx_app (a b : List Nat) : tx a ++ tx b = tx (a ++ b) := by
  show Str.append (tx a) (tx b) = _
  simp [tx, Str.append]
theorem tx_inj {a b : List Nat} : tx a = tx b ↔ a = b := ⟨fun h => by have := congrArg (fun s : Str => s.cps.toList) h; simpa using this, fun h => by rw [h]⟩
theorem tx_mul (l : List Nat) (n : Nat) : mulS (tx l) n = tx (List.replicate n l).flatten := by simp [mulS, tx]
theorem tx_cut (l : List Nat) (lo hi : Option Int) : cutS (tx l) lo hi = tx (cut l lo hi) := by
  unfold cutS cut
  simp only [tx_list, tx_len]
  rfl
theorem glue_nil : ∀ (ys : List (List Nat)) (a : Array Nat), ((ys.map tx).foldl (fun acc p => acc ++ (tx []).cps ++ p.cps) a).toList = a.toList ++ ys.flatten
  | [], a => by simp
  | y :: ys, a => by
    rw [List.map_cons, List.foldl_cons, glue_nil ys]
    simp [tx]
theorem tx_join (ys : List (List Nat)) : Txt.join (tx []) (ys.map tx) = tx ys.flatten := by
  show Builtin.Str.glued (tx []) (ys.map tx) = _
  cases ys with
  | nil => rfl
  | cons y ys =>
    unfold Builtin.Str.glued
    have h := glue_nil ys (tx y).cps
    apply congrArg Str.mk (a₁ := _) (a₂ := (List.flatten (y :: ys)).toArray)
    apply Array.toList_inj.mp
    simpa using h
def sameD : Nat → D → D → Bool
  | 0, _, _ => false
  | n + 1, d, e => match d, e with
    | .non, .non => true
    | .bl a, .bl b => a == b
    | .int a, .int b => a == b
    | .str a, .str b => a == b
    | .lst a, .lst b => (a.length == b.length && decide (a.length ≤ sizeN)) && (a.zip b).all fun p => sameD n p.1 p.2
    | .tup a, .tup b => (a.length == b.length && decide (a.length ≤ sizeN)) && (a.zip b).all fun p => sameD n p.1 p.2
    | _, _ => false
def mSame (n : Nat) : List D → Bx → R D := fun ds w => match ds with
  | [d, e] => if sameD n d e then .ok (.bl true) w else .bad
  | _ => .bad
end Y
namespace Y
open PySem PySem.Spec PyProof.Rows L2
section
variable {S S1 : SL} {w w1 w2 w3 : Bx} {d e z : D} {ds es : List D} {m k : SM} {f fa fb : EM} {fs : AM} {t u : TM} {b : Bool} {i : Nat} {α : Type}
theorem x_seq {r : RS} (h : m S w = .nx S1 w1) (h2 : k S1 w1 = r) : sSeq m k S w = r := by unfold sSeq; rw [h]; exact h2
theorem x_seqR (h : m S w = .rt d w1) : sSeq m k S w = .rt d w1 := by unfold sSeq; rw [h]
theorem x_ifT {r : RS} (h : t S w = .ok true w1) (h2 : m S w1 = r) : sIf t m k S w = r := by unfold sIf; rw [h]; exact h2
theorem x_ifF {r : RS} (h : t S w = .ok false w1) (h2 : k S w1 = r) : sIf t m k S w = r := by unfold sIf; rw [h]; exact h2
theorem x_set (h : f S w = .ok d w1) : sSet i f S w = .nx (S.set i (some (.dat d))) w1 := by unfold sSet; rw [h]; rfl
theorem x_setO (h : fs S w = .ok ds w1) : sSetO i fs S w = .nx (S.set i (some (.own ds))) w1 := by unfold sSetO; rw [h]; rfl
theorem x_ret (h : f S w = .ok d w1) : sRet f S w = .rt d w1 := by unfold sRet; rw [h]; rfl
theorem x_par {j : Nat} (h : fs S w = .ok [d, e] w1) : sPar i j fs S w = .nx ((S.set i (some (.dat d))).set j (some (.dat e))) w1 := by unfold sPar; rw [h]; rfl
theorem x_bin {mo : D → D → Option D} (ha : fa S w = .ok d w1) (hb : fb S w1 = .ok e w2) (hm : mo d e = some z) : eBin mo fa fb S w = .ok z w2 := by unfold eBin; rw [ha, R.bind_ok, hb, R.bind_ok, hm]; rfl
theorem x_e1 {mo : D → Option D} (ha : fa S w = .ok d w1) (hm : mo d = some z) : e1 mo fa S w = .ok z w1 := by unfold e1; rw [ha, R.bind_ok, hm]; rfl
theorem x_m1 {mo : D → D → Option D} {s : Str} (ha : fa S w = .ok (.str s) w1) (hb : fb S w1 = .ok e w2) (hm : mo (.str s) e = some z) : eM1 mo fa fb S w = .ok z w2 := by unfold eM1; rw [ha, R.bind_ok]; show R.bind (fb S w1) _ = _; rw [hb, R.bind_ok, hm]; rfl
theorem x_B {mo : List D → Option D} (ha : fs S w = .ok ds w1) (hm : mo ds = some z) : eB mo fs S w = .ok z w1 := by unfold eB; rw [ha, R.bind_ok, hm]; rfl
theorem x_nil : aNil S w = .ok [] w := rfl
theorem x_cons (ha : f S w = .ok d w1) (hr : fs S w1 = .ok ds w2) : aCons f fs S w = .ok (d :: ds) w2 := by unfold aCons; rw [ha, R.bind_ok, hr]; rfl
theorem x_call {n : Nat} {mm : List D → Bx → R D} {r : R D} (ha : fs S w = .ok ds w1) (hl : ds.length = n) (hm : mm ds w1 = r) : eCall n mm fs S w = r := by unfold eCall; rw [ha, R.bind_ok, if_pos hl, hm]
theorem x_tup (ha : fs S w = .ok ds w1) (hl : ds.length ≤ sizeN) : eTup fs S w = .ok (.tup ds) w1 := by unfold eTup; rw [ha, R.bind_ok, if_pos hl]
theorem x_lst (ha : fs S w = .ok ds w1) (hl : ds.length ≤ sizeN) : oLst fs S w = .ok ds w1 := by unfold oLst; rw [ha, R.bind_ok, if_pos hl]
theorem x_frz (ha : fs S w = .ok ds w1) : eFrz fs S w = .ok (.lst ds) w1 := by unfold eFrz; rw [ha]; rfl
theorem x_tOf (h : f S w = .ok (.bl b) w1) : tOf f S w = .ok b w1 := by unfold tOf; rw [h]; rfl
theorem x_notT (h : t S w = .ok true w1) : tNotM t S w = .ok false w1 := by unfold tNotM; rw [h]; rfl
theorem x_enotT (h : fa S w = .ok (.bl true) w1) : eNotM fa S w = .ok (.bl false) w1 := by unfold eNotM; rw [x_tOf h]; rfl
theorem x_enotF (h : fa S w = .ok (.bl false) w1) : eNotM fa S w = .ok (.bl true) w1 := by unfold eNotM; rw [x_tOf h]; rfl
theorem rng_ok {q : Int} (h0 : 0 ≤ q) (h1 : q < 4611686018427387904) : rngOf [.int q] = some (upFrom 0 q.toNat) := by
  show (if -(2 ^ 62) ≤ q ∧ q < 2 ^ 62 then some (upFrom 0 q.toNat) else none) = _
  rw [if_pos ⟨by omega, by omega⟩]
theorem x_andT {r : R Bool} (h : t S w = .ok true w1) (h2 : u S w1 = r) : tAndM t u S w = r := by unfold tAndM; rw [h, R.bind_ok, if_pos rfl, h2]
theorem x_andF (h : t S w = .ok false w1) : tAndM t u S w = .ok false w1 := by unfold tAndM; rw [h]; rfl
theorem x_eandT {r : R D} (h : fa S w = .ok (.bl true) w1) (h2 : fb S w1 = r) : eAndM fa fb S w = r := by unfold eAndM; rw [x_tOf h, R.bind_ok, if_pos rfl, h2]
theorem x_eandF (h : fa S w = .ok (.bl false) w1) : eAndM fa fb S w = .ok (.bl false) w1 := by unfold eAndM; rw [x_tOf h]; rfl
theorem x_eorT (h : fa S w = .ok (.bl true) w1) : eOrM fa fb S w = .ok (.bl true) w1 := by unfold eOrM; rw [x_tOf h]; rfl
theorem x_eorF {r : R D} (h : fa S w = .ok (.bl false) w1) (h2 : fb S w1 = r) : eOrM fa fb S w = r := by unfold eOrM; rw [x_tOf h, R.bind_ok]; exact h2
theorem x_eifT {r : R D} (h : t S w = .ok true w1) (h2 : fa S w1 = r) : eIf t fa fb S w = r := by unfold eIf; rw [h, R.bind_ok, if_pos rfl, h2]
theorem x_eifF {r : R D} (h : t S w = .ok false w1) (h2 : fb S w1 = r) : eIf t fa fb S w = r := by unfold eIf; rw [h, R.bind_ok]; exact h2
theorem x_any (h : f S w = .ok d w1) (hi : itemsOf d = some ds) : iAny f S w = .ok ds w1 := by unfold iAny; rw [h, R.bind_ok, hi]; rfl
theorem x_by {mo : List D → Option (List D)} (h : fs S w = .ok ds w1) (hi : mo ds = some es) : iBy mo fs S w = .ok es w1 := by unfold iBy; rw [h, R.bind_ok, hi]; rfl
theorem x_pSome {n : Int} (h : f S w = .ok (.int n) w1) : pSome f S w = .ok (some n) w1 := by unfold pSome; rw [h]; rfl
theorem x_sl {lo hi : Option Int} {l h : SL → Bx → R (Option Int)} (ha : f S w = .ok d w1) (hl : l S w1 = .ok lo w2) (hh : h S w2 = .ok hi w3) (hm : mSl d lo hi = some z) : eSl f l h S w = .ok z w3 := by unfold eSl; rw [ha, R.bind_ok, hl, R.bind_ok, hh, R.bind_ok, hm]; rfl
theorem x_for {fi : AM} {gm : GM} {body : SM} {r : RS} (h : fi S w = .ok ds w1) (hl : forLoop gm body ds S w1 = r) : sFor fi gm body S w = r := by unfold sFor; rw [h]; exact hl
theorem x_frzS {j : Nat} {r : RS} (h : m (frz j S) w = r) : sFrz j m S w = r := h
theorem x_sbx {n : Int} (h : f S w = .ok d w1) (hb : isBox S i = true) (hp : bxPut w1 n d = some w2) : sBx i n f S w = .nx S w2 := by unfold sBx; rw [h, R.to_ok, if_pos hb, hp]
/-- a comprehension whose elements are told one by one -/
theorem x_lc {fi : AM} {gm : GM} {tm : TM} {em : EM} {vs : List Nat} {r : R (List D)} (h : fi S w = .ok ds w1) (hl : ds.length ≤ sizeN) (hr : lcLoop gm tm em (wipeS S vs) ds w1 = r) : oLc fi gm tm em vs S w = r := by unfold oLc; rw [h, R.bind_ok, if_pos hl, hr]
theorem x_lcC {gm : GM} {tm : TM} {em : EM} (hg : gm d S = some S1) (ht : tm S1 w = .ok true w1) (he : em S1 w1 = .ok e w2) (hr : lcLoop gm tm em S ds w2 = .ok es w3) : lcLoop gm tm em S (d :: ds) w = .ok (e :: es) w3 := by
  unfold lcLoop; rw [hg]; simp only [ht, he, R.nx, R.bind_ok, if_true, hr]
theorem x_lcS {gm : GM} {tm : TM} {em : EM} {r : R (List D)} (hg : gm d S = some S1) (ht : tm S1 w = .ok false w1) (hr : lcLoop gm tm em S ds w1 = r) : lcLoop gm tm em S (d :: ds) w = r := by
  rw [show lcLoop gm tm em S (d :: ds) w = (match gm d S with | none => .bad | some S1 => (tm S1 w).nx.bind fun b w1 => if b then (em S1 w1).nx.bind fun y w2 => (lcLoop gm tm em S ds w2).bind fun ys w3 => .ok (y :: ys) w3 else lcLoop gm tm em S ds w1) from rfl, hg]
  simp only [ht, R.nx, R.bind_ok]
  exact hr
/-- with draws: each element has the property -/
theorem x_lcP {gm : GM} {em : EM} (P : D → Prop) : ∀ (ds : List D) (w : Bx), (∀ x ∈ ds, ∀ w, ∃ S1 y w', gm x S = some S1 ∧ em S1 w = .ok y w' ∧ P y) → ∃ ys w', lcLoop gm tYesM em S ds w = .ok ys w' ∧ ys.length = ds.length ∧ ∀ y ∈ ys, P y
  | [], w, _ => ⟨[], w, rfl, rfl, fun _ h => nomatch h⟩
  | x :: ds, w, h => by
    obtain ⟨S1, y, w1, h1, h2, h3⟩ := h x (List.mem_cons_self ..) w
    obtain ⟨ys, w2, h4, h5, h6⟩ := x_lcP P ds w1 fun z hz => h z (List.mem_cons_of_mem _ hz)
    exact ⟨y :: ys, w2, x_lcC h1 rfl h2 h4, by rw [List.length_cons, List.length_cons, h5], fun z hz => (List.mem_cons.mp hz).elim (fun e => e ▸ h3) (h6 z)⟩
theorem x_run {n l : Nat} {body : SM} {ds : List D} (hl : ds.length = n) (h : body (startS l ds) w = .rt d w1) : runF n l body ds w = .ok d w1 := by unfold runF; rw [if_pos hl, h]
/-- a for whose turns go on, whatever is drawn -/
theorem x_forP {gm : GM} {body : SM} (I : SL → Prop) : ∀ (ds : List D) (S : SL) (w : Bx), I S → (∀ x ∈ ds, ∀ S w, I S → ∃ S1, gm x S = some S1 ∧ ∃ S2 w2, (body S1 w = .nx S2 w2 ∨ body S1 w = .ct S2 w2) ∧ I S2) → ∃ S2 w2, forLoop gm body ds S w = .nx S2 w2 ∧ I S2
  | [], S, w, h, _ => ⟨S, w, rfl, h⟩
  | x :: ds, S, w, h, hb => by
    obtain ⟨S1, h1, S2, w2, h2, h3⟩ := hb x (List.mem_cons_self ..) S w h
    obtain ⟨S3, w3, h4, h5⟩ := x_forP I ds S2 w2 h3 fun y hy => hb y (List.mem_cons_of_mem _ hy)
    refine ⟨S3, w3, ?_, h5⟩
    show (match gm x S with | none => RS.bad | some S1 => _) = _
    rw [h1]
    rcases h2 with h2 | h2
    · simp only [h2]; exact h4
    · simp only [h2]; exact h4
end
end Y

namespace Y
open PySem PySem.Spec PyProof.Rows L2
theorem x_same {n : Nat} {d e : D} {w : Bx} (h : sameD n d e = true) : mSame n [d, e] w = .ok (.bl true) w := by
  show (if sameD n d e then R.ok (D.bl true) w else .bad) = _
  rw [if_pos h]
theorem lsz {n m : Nat} (h : Nat.ble n m = true) : n ≤ m := Nat.le_of_ble_eq_true h
theorem lit_nil : ("" : Str) = tx [] := by decide +kernel
theorem lit_ab : ("ab" : Str) = tx [97, 98] := by decide +kernel
theorem lit_a : ("a" : Str) = tx [97] := by decide +kernel
theorem lit_b : ("b" : Str) = tx [98] := by decide +kernel
theorem strs_any (P : Nat → Prop) : ∀ (ys : List D), (∀ y ∈ ys, ∃ c, P c ∧ y = .str (tx [c])) → ∃ l : List Nat, (∀ c ∈ l, P c) ∧ l.length = ys.length ∧ strsOf ys = some ((l.map fun c => [c]).map tx)
  | [], _ => ⟨[], (fun _ h => nomatch h), rfl, rfl⟩
  | y :: ys, h => by
    obtain ⟨c, hc, rfl⟩ := h y (List.mem_cons_self ..)
    obtain ⟨l, h1, h2, h3⟩ := strs_any P ys fun z hz => h z (List.mem_cons_of_mem _ hz)
    exact ⟨c :: l, fun z hz => (List.mem_cons.mp hz).elim (fun e => e ▸ hc) (h1 z), by simp [h2], by simp [strsOf, h3]⟩
theorem sum_ones (l : List Nat) : (((l.map fun c => [c]).map tx).map (·.length)).sum = l.length := by
  induction l with
  | nil => rfl
  | cons c l ih => simp only [List.map_cons, List.sum_cons, tx_len, List.length_cons, List.length_nil, ih]; omega
theorem flat_ones (l : List Nat) : (l.map fun c => [c]).flatten = l := by
  induction l with
  | nil => rfl
  | cons c l ih => simp [ih]
theorem join_ones (l : List Nat) (h : l.length ≤ 16777216) {ys : List D} (hy : strsOf ys = some ((l.map fun c => [c]).map tx)) : mJoin (.str "") (.lst ys) = some (.str (tx l)) := by
  unfold mJoin
  simp only [hy, Option.bind_some]
  unfold joinS
  rw [lit_nil, sum_ones, if_pos (by simp [sizeN]; omega), tx_join, flat_ones]
theorem len_tx {l : List Nat} (h : l.length ≤ 16777216) : mLen [.str (tx l)] = some (.int (l.length : Int)) := by
  show (if (tx l).length ≤ sizeN then some (D.int ((tx l).length : Int)) else none) = _
  rw [tx_len, if_pos (show l.length ≤ sizeN from h)]
end Y
namespace Y
open PySem PySem.Spec PyProof.Rows L2
end Y
namespace Y
open PySem PySem.Spec PyProof.Rows L2
section
variable {S : SL} {w w1 w2 w3 : Bx} {d e z : D} {i : Nat}
theorem x_C : eC d S w = .ok d w := rfl
theorem x_pN : pNone S w = .ok none w := rfl
end
theorem add_tx {a b : List Nat} (h : a.length + b.length ≤ 16777216) : mAdd (.str (tx a)) (.str (tx b)) = some (.str (tx (a ++ b))) := by
  unfold mAdd
  simp only [tx_len]
  rw [if_pos (show a.length + b.length ≤ sizeN from h), tx_app]
structure Pl where
  c : Nat
  n : Nat
  fr : Bool
inductive Kd where
  | bef (c : Nat) | aft (c : Nat) | rem | flp
inductive Ed where
  | keep | pre (c : Nat) | app (c : Nat) | at_ (k : Kd) (p : Pl)
def AB (c : Nat) : Prop := c = 97 ∨ c = 98
instance (c : Nat) : Decidable (AB c) := inferInstanceAs (Decidable (_ ∨ _))
def flipC (c : Nat) : Nat := if c = 97 then 98 else 97
def piece : Kd → Nat → List Nat
  | .bef c, s => [c, s]
  | .aft c, s => [s, c]
  | .rem, _ => []
  | .flp, s => [flipC s]
end Y
namespace Y
open PySem PySem.Spec PyProof.Rows L2
end Y
namespace Y
open PySem PySem.Spec PyProof.Rows L2
end Y
namespace Y
open PySem PySem.Spec PyProof.Rows L2
def plainD : Nat → D → Prop
  | 0, _ => False
  | n + 1, d => match d with
    | .non => True
    | .bl _ => True
    | .int _ => True
    | .str _ => True
    | .lst a => a.length ≤ 16777216 ∧ ∀ x ∈ a, plainD n x
    | .tup a => a.length ≤ 16777216 ∧ ∀ x ∈ a, plainD n x
    | _ => False
theorem zip_all (f : D → D → Bool) : ∀ (l : List D), (∀ x ∈ l, f x x = true) → ((l.zip l).all fun p => f p.1 p.2) = true
  | [], _ => rfl
  | a :: l, h => by
    rw [List.zip_cons_cons, List.all_cons, Bool.and_eq_true]
    exact ⟨h a (List.mem_cons_self ..), zip_all f l fun x hx => h x (List.mem_cons_of_mem _ hx)⟩
theorem same_refl : ∀ (n : Nat) (d : D), plainD n d → sameD n d d = true
  | 0, _, h => h.elim
  | n + 1, d, h => by
    have key : ∀ a : List D, a.length ≤ 16777216 ∧ (∀ x ∈ a, plainD n x) → ((a.length == a.length && decide (a.length ≤ sizeN)) && (a.zip a).all fun p => sameD n p.1 p.2) = true := fun a h => by
      rw [Bool.and_eq_true, Bool.and_eq_true]
      exact ⟨⟨beq_self_eq_true _, decide_eq_true h.1⟩, zip_all _ a fun x hx => same_refl n x (h.2 x hx)⟩
    cases d with
    | non => rfl
    | bl b => simp [sameD]
    | int b => simp [sameD]
    | str b => simp [sameD]
    | lst a => rw [sameD]; exact key a h
    | tup a => rw [sameD]; exact key a h
    | _ => exact h.elim
theorem plain_nil {n : Nat} : ∀ x ∈ ([] : List D), plainD n x := fun _ h => nomatch h
theorem plain_cons {n : Nat} {d : D} {ds : List D} (h : plainD n d) (t : ∀ x ∈ ds, plainD n x) : ∀ x ∈ d :: ds, plainD n x := fun x hx => by
  rcases List.mem_cons.mp hx with rfl | z
  · exact h
  · exact t x z
theorem x_same' {d : D} {w : Bx} (h : plainD 8 d) : mSame 8 [d, d] w = .ok (.bl true) w := x_same (same_refl 8 d h)
end Y
namespace Y
open PySem PySem.Spec PyProof.Rows L2
def strEq (a : Str) : D → Bool
  | .str s => decide (s = a)
  | _ => false
theorem eqv_strL {a : Str} {d : D} {p : PyData} (h : toPy d = some p) : PyData.eqv (.str a) p = strEq a d := by
  cases d with
  | non => rw [toPy] at h; cases h; rfl
  | bl b => rw [toPy] at h; cases h; rfl
  | int b => rw [toPy] at h; cases h; rfl
  | str b => rw [toPy] at h; cases h; rw [PyData.eqv, Bool.eq_iff_iff, beq_iff_eq, strEq, decide_eq_true_iff]; exact eq_comm
  | lst ds => rw [toPy] at h; obtain ⟨ps, _, e⟩ := Option.map_eq_some_iff.mp h; subst e; rfl
  | tup ds => rw [toPy] at h; obtain ⟨ps, _, e⟩ := Option.map_eq_some_iff.mp h; subst e; rfl
  | _ => rw [toPy] at h; cases h
def niceN : Nat → D → Prop
  | _, .non => True
  | _, .bl _ => True
  | _, .int _ => True
  | _, .str s => PyData.strOk s = true
  | n + 1, .lst ds => ∀ x ∈ ds, niceN n x
  | n + 1, .tup ds => ∀ x ∈ ds, niceN n x
  | _, _ => False
mutual
theorem nice_py : ∀ {d : D} {n : Nat}, niceN n d → ∃ p, toPy d = some p ∧ p.canLay0 = true ∧ p.depth ≤ n
  | .non, n, _ => ⟨.none, by rw [toPy], rfl, Nat.zero_le _⟩
  | .bl b, n, _ => ⟨.bool b, by rw [toPy], rfl, Nat.zero_le _⟩
  | .int b, n, _ => ⟨.int b, by rw [toPy], rfl, Nat.zero_le _⟩
  | .str s, n, h => ⟨.str s, by rw [toPy], (by unfold niceN at h; rw [PyData.canLay0]; exact h), Nat.zero_le _⟩
  | .lst ds, 0, h => by simp [niceN] at h
  | .tup ds, 0, h => by simp [niceN] at h
  | .lst ds, n + 1, h => by
    obtain ⟨ps, e1, e2, e3⟩ := nice_pys (ds := ds) (n := n) (by unfold niceN at h; exact h)
    exact ⟨.list ps, by rw [toPy, e1]; rfl, by rw [PyData.canLay0]; exact e2, by rw [PyData.depth]; omega⟩
  | .tup ds, n + 1, h => by
    obtain ⟨ps, e1, e2, e3⟩ := nice_pys (ds := ds) (n := n) (by unfold niceN at h; exact h)
    exact ⟨.tuple ps, by rw [toPy, e1]; rfl, by rw [PyData.canLay0]; exact e2, by rw [PyData.depth]; omega⟩
  | .box, n, h => by cases n <;> simp [niceN] at h
  | .obj _ _, n, h => by cases n <;> simp [niceN] at h
  | .dct _, n, h => by cases n <;> simp [niceN] at h
  | .cel _, n, h => by cases n <;> simp [niceN] at h
theorem nice_pys : ∀ {ds : List D} {n : Nat}, (∀ x ∈ ds, niceN n x) → ∃ ps, toPys ds = some ps ∧ PyData.canLayAll0 ps = true ∧ PyData.depthAll ps ≤ n
  | [], n, _ => ⟨[], by rw [toPys], by rw [PyData.canLayAll0], Nat.zero_le _⟩
  | d :: ds, n, h => by
    obtain ⟨p, a1, a2, a3⟩ := nice_py (h d (List.mem_cons_self ..))
    obtain ⟨ps, e1, e2, e3⟩ := nice_pys fun x hx => h x (List.mem_cons_of_mem _ hx)
    refine ⟨p :: ps, by rw [toPys, a1, e1]; rfl, by rw [PyData.canLayAll0, a2, e2]; rfl, ?_⟩
    rw [PyData.depthAll]
    exact Nat.max_le.mpr ⟨a3, e3⟩
end
theorem nice_shp {d : D} {n : Nat} (h : niceN n d) (hn : n ≤ 64) : ∃ p, toPy d = some p ∧ shp d = some p := by
  obtain ⟨p, a1, a2, a3⟩ := nice_py h
  refine ⟨p, a1, ?_⟩
  unfold shp
  rw [a1, Option.bind_some, if_pos]
  unfold SeqAt.shaped
  rw [a2, Bool.true_and]
  exact decide_eq_true (Nat.le_trans a3 hn)
theorem addL {a b : List D} (h : a.length + b.length ≤ 16777216) : mAdd (.lst a) (.lst b) = some (.lst (a ++ b)) := by
  unfold mAdd
  simp only
  rw [if_pos (show a.length + b.length ≤ sizeN from h)]
end Y
namespace Y
open PySem PySem.Spec PyProof.Rows L2
structure Pc where
  b : List Nat
  s : List Nat
  a : List Nat
def Pc.all (p : Pc) : List Nat := p.b ++ p.s ++ p.a
def wr (ps : List Pc) : List Nat := (ps.map Pc.all).flatten
end Y
namespace Y
open PySem PySem.Spec PyProof.Rows L2
section
variable {S S1 : SL} {w w1 w2 w3 : Bx} {d e z : D} {ds es : List D} {fa fb fo : EM} {fs : AM} {c m : Str} {mm : List D → Bx → R D}
end
/-- a loop whose slots are told by the items that are left -/
theorem x_forI {β : Type} {gm : GM} {body : SM} {f : β → D} (I : List β → SL → Bx → Prop) (hs : ∀ b bs S w, I (b :: bs) S w → ∃ S1 S2 w2, gm (f b) S = some S1 ∧ body S1 w = .nx S2 w2 ∧ I bs S2 w2) : ∀ (l : List β) (S : SL) (w : Bx), I l S w → ∃ S2 w2, forLoop gm body (l.map f) S w = .nx S2 w2 ∧ I [] S2 w2
  | [], S, w, h => ⟨S, w, rfl, h⟩
  | b :: bs, S, w, h => by
    obtain ⟨S1, S2, w2, h1, h2, h3⟩ := hs b bs S w h
    obtain ⟨S3, w3, h4, h5⟩ := x_forI I hs bs S2 w2 h3
    refine ⟨S3, w3, ?_, h5⟩
    show (match gm (f b) S with | none => RS.bad | some S1 => _) = _
    rw [h1]
    simp only [h2]
    exact h4
theorem p_cons {f : EM} {fs : AM} {S : SL} {w : Bx} {d : D} {ds : List D} (ha : f S w = .ok d w) (hr : fs S w = .ok ds w) : aCons f fs S w = .ok (d :: ds) w := x_cons ha hr
theorem p_bin {mo : D → D → Option D} {fa fb : EM} {S : SL} {w : Bx} {d e z : D} (ha : fa S w = .ok d w) (hb : fb S w = .ok e w) (hm : mo d e = some z) : eBin mo fa fb S w = .ok z w := x_bin ha hb hm
theorem p_seq {m k : SM} {S S1 : SL} {w : Bx} {r : RS} (h : m S w = .nx S1 w) (h2 : k S1 w = r) : sSeq m k S w = r := x_seq h h2
theorem p_any {f : EM} {S : SL} {w : Bx} {d : D} {ds : List D} (h : f S w = .ok d w) (hi : itemsOf d = some ds) : iAny f S w = .ok ds w := x_any h hi
end Y
namespace Y
open PySem PySem.Spec PyProof.Rows L2
structure Mk' where
  o : Int
  w : Bool
  s : List Nat
end Y
namespace Y
open PySem PySem.Spec PyProof.Rows L2
def m0 : Mk' := ⟨0, false, []⟩
end Y
namespace Y
open PySem PySem.Spec PyProof.Rows L2
/-- where the n-th piece of the middle trace starts in the last one -/
def off (h : Nat) (bp : List Pc) (n : Nat) : Nat := h + (wr (bp.take n)).length
end Y
namespace Y
open PySem PySem.Spec PyProof.Rows L2
theorem nice_tx {l : List Nat} (h : ∀ c ∈ l, AB c) (n : Nat) : niceN n (.str (tx l)) := by
  have : PyData.strOk (tx l) = true := by
    unfold PyData.strOk
    rw [← Array.all_toList, List.all_eq_true]
    intro c hc
    have hc' : c ∈ l := by simpa [tx] using hc
    rcases h c hc' with rfl | rfl <;> decide
  cases n <;> exact this
theorem nice_list {n : Nat} {ds : List D} (h : ∀ x ∈ ds, niceN n x) : niceN (n + 1) (.lst ds) := by unfold niceN; exact h
end Y
namespace Y
open PySem PySem.Spec PyProof.Rows L2
end Y
namespace Y
open PySem PySem.Spec PyProof.Rows L2
/-- a loop over numbers, the slots told by the number -/
theorem x_forN0 {gm : GM} {body : SM} (f : Nat → D) (I : Nat → SL → Bx → Prop) (n : Nat) (hs : ∀ i S w, i < n → I i S w → ∃ S1 S2 w2, gm (f i) S = some S1 ∧ body S1 w = .nx S2 w2 ∧ I (i + 1) S2 w2) : ∀ (k i : Nat) (S : SL) (w : Bx), i + k = n → I i S w → ∃ S2 w2, forLoop gm body ((List.range' i k).map f) S w = .nx S2 w2 ∧ I n S2 w2
  | 0, i, S, w, e, h => ⟨S, w, rfl, by rw [← e]; exact h⟩
  | k + 1, i, S, w, e, h => by
    obtain ⟨S1, S2, w2, h1, h2, h3⟩ := hs i S w (by omega) h
    obtain ⟨S3, w3, h4, h5⟩ := x_forN0 f I n hs k (i + 1) S2 w2 (by omega) h3
    refine ⟨S3, w3, ?_, h5⟩
    rw [List.range'_succ, List.map_cons]
    show (match gm (f i) S with | none => RS.bad | some S1 => _) = _
    rw [h1]
    simp only [h2]
    exact h4
theorem x_forN {gm : GM} {body : SM} (f : Nat → D) (I : Nat → SL → Bx → Prop) (n : Nat) {S : SL} {w : Bx} (h0 : I 0 S w) (hs : ∀ i S w, i < n → I i S w → ∃ S1 S2 w2, gm (f i) S = some S1 ∧ body S1 w = .nx S2 w2 ∧ I (i + 1) S2 w2) : ∃ S2 w2, forLoop gm body ((List.range n).map f) S w = .nx S2 w2 ∧ I n S2 w2 := by
  rw [List.range_eq_range']
  exact x_forN0 f I n hs n 0 S w (by omega) h0
end Y
namespace Y
open PySem PySem.Spec PyProof.Rows L2
end Y
namespace Y
open PySem PySem.Spec PyProof.Rows L2
end Y
namespace Y
open PySem PySem.Spec PyProof.Rows L2
end Y
namespace Y
open PySem PySem.Spec PyProof.Rows L2
end Y
namespace Y
open PySem PySem.Spec PyProof.Rows L2
section
variable {X : Cx} {body : List Stmt} {n : Str} {i : Nat} {h₀ : ExceptHandler} {hds : List ExceptHandler} {l : List (List Value × (Addr → Value → Option Addr → TS))} {pos : Pos} {tb : WX → TS} {Wout : WX}
end
end Y
namespace Y
open PySem PySem.Spec PyProof.Rows L2
/-- a base: its own __new__, the mro from it on -/
structure XB where
  B : String
  newI : String
  iniI : String
  tl : List Value
section
open PySem.W PySem.Calls PySem.HandSPX Builtin Builtin.ObjectAttr
variable {prog : Program} {w : World} {A : Around} {E : Value → Shared → Prop} {R : Result → Shared → Prop} {hp : Heap} {g : Array GenState} {d : Drawn} {t : Nat} {os : OsState} {b : XB}
end
section
variable {X : Cx} {A : Around} {E : Value → Shared → Prop} {pins : List (Addr × Obj)} {σ : L2.St} {H : Hp} {s : Shared} {a C dx : Addr} {f : Str} {y : V} {u : Value} {fs : List (Str × V)} {Q : Unit → Shared → Prop} {b : XB}
end
section
variable {X : Cx} {o e : Expr} {es : List Expr} {to te : TE} {ta : TA} {f : Str} {p p' p1 p2 pos : Pos} {b : XB}
end
section
variable {P : Program} {w : World} {K : PySem.W.Frag} {mg : Str → Option Value} {base : Heap} {tb : List (Addr × Str)} {c f qual T : Str} {st : Stmt} {b : XB}
end
section
variable {X : Cx} {g : G} {E : EK} {F0 : FH} {H0 : Hp} {e : Expr} {pos p pos2 : Pos} {fe : EM} {c f T : Str} {b : XB}
end
end Y
namespace Y
open PySem PySem.Spec PyProof.Rows L2
section
variable {X : Cx} {pins : List (Addr × Obj)} {σ : L2.St} {H : Hp} {s : Shared}
end
section
variable {X : Cx}
end
end Y
namespace Y
open PySem PySem.Spec PyProof.Rows L2
end Y
namespace Y
open PySem PySem.Spec PyProof.Rows L2
section
variable {X : Cx} {g : G} {E : EK} {x : Str} {tbl : List (Str × Str)}
end
end Y
namespace Y
open PySem PySem.Spec PyProof.Rows L2
end Y
namespace Y
open PySem PySem.Spec PyProof.Rows L2
theorem tabs_start {tb : List (Addr × Str)} {H : Hp} (h : ∀ p ∈ tb, H p.1 = some (.tbl #[])) : LamX.Tabs tb H := fun p hp => ⟨#[], h p hp, trivial, fun pos cv hc => by cases hc⟩
end Y
namespace Y
end Y
namespace Y
open PySem PySem.Spec PyProof.Rows L2
end Y
namespace Y
open PySem PySem.Spec PyProof.Rows L2
section
variable {X : Cx} {g : G} {E : EK} {e a b : Expr} {pos p : Pos} {f fa fb : EM} {c : Str} {k : Nat} {mm : List D → Bx → R D} {tb : List (Str × Bool)}
end
end Y
namespace Y
open PySem PySem.Spec PyProof.Rows L2
section
variable {X : Cx} {g : G} {E : EK} {pos : Pos}
end
end Y
namespace Y
open PySem PySem.Spec PyProof.Rows L2
def ltP (i j : Int) (s t : Str) : Bool := if i = j then decide (s.cps.toList < t.cps.toList) else decide (i < j)
def rLtP (K : PySem.W.Frag) : R2 := fun x y H Q => ∃ a b i j s t, x = .ref a ∧ y = .ref b ∧ SqT K H a [.int i, .str s] ∧ SqT K H b [.int j, .str t] ∧ Q (.bl (ltP i j s t)) H
def mLtP : D → D → Option D
  | .tup [.int i, .str s], .tup [.int j, .str t] => some (.bl (ltP i j s t))
  | _, _ => none
section
variable {X : Cx}
theorem op_ltP (hu : X.A.units + 1 < cLine) : OpR X (compareOp .Lt) (rLtP X.K) := by
  intro pins s σ H x y v u Q I rx ry h
  obtain ⟨a, b, i, j, x1, x2, rfl, rfl, ha, hb, q⟩ := h
  cases rx
  cases ry
  obtain ⟨its, r1, p1, _⟩ := I.tuple ha
  obtain ⟨its2, r2, p2, _⟩ := I.tuple hb
  obtain ⟨u1, u2, rfl, s1, s2⟩ := vals2 r1
  obtain ⟨v1, v2, rfl, t1, t2⟩ := vals2 r2
  obtain ⟨k1, rfl⟩ := (show ∃ t, u1 = Value.int i t from s1)
  obtain ⟨k2, rfl⟩ := (show ∃ t, u2 = Value.str x1 t from s2)
  obtain ⟨k3, rfl⟩ := (show ∃ t, v1 = Value.int j t from t1)
  obtain ⟨k4, rfl⟩ := (show ∃ t, v2 = Value.str x2 t from t2)
  show wpAny (model X.prog X.w) X.A (richCompare .Lt (.ref a) (.ref b)) (EP X pins σ Q) X.xe s
  have key := SeqAt.RcLt.tuples (A := X.A) (s := s) (e := fun n => match n with | 0 => i == j | _ => x1 == x2) (r := fun n => match n with | 0 => decide (i < j) | _ => decide (x1.cps.toList < x2.cps.toList)) p1 p2 (by omega) ?e ?r
  case e =>
    intro n h1 h2
    match n, h1, h2 with
    | 0, _, _ => exact (MeetsSeq.EqGives.int i j k1 k3).at _ _
    | 1, _, _ => exact (eqGives_str x1 x2 k2 k4).at _ _
    | n + 2, h1, _ => exact absurd h1 (by simp)
  case r =>
    intro n h1 h2 h3
    match n, h1, h2, h3 with
    | 0, _, _, _ => exact fun prog w E Q hq => lt_int hq
    | 1, _, _, _ => exact fun prog w E Q hq => lt_str hq
    | n + 2, h1, _, _ => exact absurd h1 (by simp)
  refine key X.prog X.w _ _ ⟨.bl (ltP i j x1 x2), H, I, ?_, q⟩
  show Value.bool (SeqAt.firstLt _ _ false [0, 1]) = Value.bool (ltP i j x1 x2)
  unfold ltP SeqAt.firstLt SeqAt.firstLt SeqAt.firstLt
  by_cases e : i = j
  · subst e
    by_cases e2 : x1 = x2
    · subst e2
      simp
    · simp [e2]
  · simp [e]
theorem od_ltP {g : G} (hK : g.K = X.K) : OpD g (rLtP X.K) mLtP := by
  intro F H w x y d e z Q s b rx ry hz q
  rw [← hK]
  unfold mLtP at hz
  split at hz
  · cases hz
    cases rx with
    | tup h1 r1 =>
      cases ry with
      | tup h2 r2 =>
        obtain ⟨v1, v2, rfl, a1, a2⟩ := drs2 r1
        obtain ⟨u1, u2, rfl, b1, b2⟩ := drs2 r2
        cases a1; cases a2; cases b1; cases b2
        exact ⟨_, _, _, _, _, _, rfl, rfl, same_T s h1, same_T s h2, here s b (.bl _) q⟩
  · cases hz
end
end Y
namespace Y
open PySem PySem.Spec PyProof.Rows L2
section
variable {X : Cx} {g : G} {E : EK} {F0 : FH} {H0 : Hp} {x : Str} {cs : List Str} {b : Bool} {body : List Stmt} {mb : SM} {np pos pos' p1 p2 : Pos} {k1 : Nat}
end
end Y
namespace Y
open PySem PySem.Spec PyProof.Rows L2
section
variable {T : Tell} {w : World} {h : Heap} {K : Fr}
theorem Says.q (S : Says T w h K) (i : Nat) {q : Qy} (e : T.chk[i]? = some q := by rfl) : q.l K = q.r K := Qy.says (S.ck q (List.mem_of_getElem? e))
theorem fn_get {x : FnA} (hx : x.dfl = false) (e1 : seeF K (x.ad K) = x.due) (e2 : FnA.ok K x = true) : ∃ oc od cl kV doc pm an cdv ct sl, K.lookup (x.ad K) = some ⟨oc, od, .func (PySem.W.fnX x.nam x.qua (defArgs x.st) (defBody x.st) (defScope x.st) cl .none kV doc pm an cdv ct), sl⟩ ∧ cl.map Prod.fst = x.clo ∧ PySem.W.codeIn K cdv x.qua = true ∧ PySem.W.keepIn K (.ref (x.ad K)) = true := by
  unfold FnA.ok at e2
  unfold seeF at e1
  cases q : K.lookup (x.ad K) with
  | none => rw [q] at e2; cases e2
  | some o =>
    obtain ⟨oc, od, dt, osl⟩ := o
    rw [q] at e1 e2
    cases dt with
    | func fd =>
      obtain ⟨n1, n2, n3, n4, n5, n6, n7, n8, n9, n10, n11, n12, n13, n14, n15⟩ := fd
      obtain ⟨c1, c2⟩ := He.ba e2
      obtain ⟨c3, c4⟩ := He.ba c2
      have e3 := Option.some.inj e1
      simp only [FnA.due, Option.some.injEq, Prod.mk.injEq] at e1
      obtain ⟨⟨h1, h2⟩, ⟨h3, h4, h5⟩, ⟨h6, h7⟩, h8⟩ := e1
      rw [hx, Bool.false_or] at c3
      have h9 : n8 = .none := of_decide_eq_true c3
      subst h1 h2 h3 h4 h5 h6 h7 h9
      exact ⟨oc, od, n7, n9, n10, n11, n12, n13, n14, osl, rfl, h8, c1, c4⟩
    | _ => cases e2
theorem Says.fnX (S : Says T w h K) (i : Nat) {x : FnA} (e : T.fns[i]? = some x) (hx : x.dfl = false) : ∃ oc od cl kV doc pm an cdv ct sl, K.lookup (x.ad K) = some ⟨oc, od, .func (PySem.W.fnX x.nam x.qua (defArgs x.st) (defBody x.st) (defScope x.st) cl .none kV doc pm an cdv ct), sl⟩ ∧ cl.map Prod.fst = x.clo ∧ PySem.W.codeIn K cdv x.qua = true ∧ PySem.W.keepIn K (.ref (x.ad K)) = true := by
  have e2 : (T.fns.map fun x => seeF K (x.ad K))[i]? = (T.fns.map FnA.due)[i]? := by rw [S.fn]
  rw [List.getElem?_map, List.getElem?_map, e] at e2
  exact fn_get hx (Option.some.inj e2) (S.fo x (List.mem_of_getElem? e))
/-- a def or a method without a closure -/
theorem Says.f (S : Says T w h K) (i : Nat) {x : FnA} (e : T.fns[i]? = some x := by rfl) (hc : x.clo = [] := by rfl) (hx : x.dfl = false := by rfl) : ∃ fd, Fun K x.nam x.qua x.st (x.ad K) fd := by
  obtain ⟨oc, od, cl, kV, doc, pm, an, cdv, ct, sl, lk, h1, h2, h3⟩ := S.fnX i e hx
  rw [hc] at h1
  have : cl = [] := List.map_eq_nil_iff.mp h1
  subst this
  exact ⟨_, ⟨oc, od, kV, doc, pm, an, cdv, ct, sl, rfl, lk, h2⟩, h3⟩
theorem fun_one {x q : Str} {st : Stmt} {f : Addr} {fd fd2 : FuncData} (F : Fun K x q st f fd) (F2 : Fun K x q st f fd2) : fd = fd2 := by
  obtain ⟨_, _, _, _, _, _, _, _, _, _, l1, _⟩ := F.ex
  obtain ⟨_, _, _, _, _, _, _, _, _, _, l2, _⟩ := F2.ex
  rw [l1] at l2
  cases l2
  rfl
theorem name_eq {mg : Str → Option Value} {x y : Str} {v : Value} (e : x = y) (hm : mg x = some v) : mg y = some v := e ▸ hm
end
end Y
namespace Y
open PySem PySem.Spec PyProof.Rows L2
section
variable {X : Cx}
end
end Y
namespace Y
open PySem PySem.Spec PyProof.Rows L2
section
variable {X : Cx} {pins : List (Addr × Obj)} {σ : L2.St} {H : Hp} {s : Shared}
end
end Y
namespace Y
open PySem PySem.Spec PyProof.Rows L2
section
variable {X : Cx} {pins : List (Addr × Obj)} {σ : L2.St} {H HZ : Hp} {s s1 : Shared}
end
end Y
namespace Y
open PySem PySem.Spec PyProof.Rows L2
section
variable {X : Cx} {g : G} {E : EK} {x y z : Str} {tbl : List (Str × Str)}
end
end Y
namespace Y
open PySem PySem.Spec PyProof.Rows L2
section
variable {X : Cx} {g : G} {E : EK} {x y z : Str} {tbl : List (Str × Str)}
end
end Y
namespace Y
open PySem PySem.Spec PyProof.Rows L2
section
variable {g : G} {F : FH} {H : Hp} {w : Bx}
end
section
variable {X : Cx} {g : G} {E : EK} {F0 : FH} {H0 : Hp} {B : FH}
end
end Y
namespace Y
open PySem PySem.Spec PyProof.Rows L2
section
variable {S S1 : SL} {w w1 w2 : Bx} {c f T : Str} {fs : List (Str × D)} {d z : D} {fe fa fb : EM} {ds : List D} {m k : SM}
end
end Y
namespace Y
open PySem PySem.Spec PyProof.Rows L2
end Y
namespace Y
open PySem PySem.Spec PyProof.Rows L2
def lt2 (x y : List Nat) : Prop := x.length < y.length ∨ (x.length = y.length ∧ x < y)
theorem lexlt_irrefl (x : List Nat) : ¬ x < x := List.lt_irrefl x
theorem lt2_irrefl (x : List Nat) : ¬ lt2 x x := fun h => h.elim (fun h => Nat.lt_irrefl _ h) fun h => lexlt_irrefl _ h.2
theorem lt2_trans {x y z : List Nat} (h : lt2 x y) (k : lt2 y z) : lt2 x z := by
  rcases h with h | ⟨h, h'⟩ <;> rcases k with k | ⟨k, k'⟩
  · exact .inl (by omega)
  · exact .inl (by omega)
  · exact .inl (by omega)
  · exact .inr ⟨by omega, List.lt_trans h' k'⟩
theorem lex_tri : ∀ (x y : List Nat), x.length = y.length → x < y ∨ x = y ∨ y < x
  | [], [], _ => .inr (.inl rfl)
  | a :: x, b :: y, h => by
    rcases Nat.lt_trichotomy a b with k | k | k
    · exact .inl (List.Lex.rel k)
    · subst k
      rcases lex_tri x y (by simpa using h) with k | k | k
      · exact .inl (List.Lex.cons k)
      · exact .inr (.inl (by rw [k]))
      · exact .inr (.inr (List.Lex.cons k))
    · exact .inr (.inr (List.Lex.rel k))
theorem lt2_tri (x y : List Nat) : lt2 x y ∨ x = y ∨ lt2 y x := by
  rcases Nat.lt_trichotomy x.length y.length with h | h | h
  · exact .inl (.inl h)
  · rcases lex_tri x y h with k | k | k
    · exact .inl (.inr ⟨h, k⟩)
    · exact .inr (.inl k)
    · exact .inr (.inr (.inr ⟨h.symm, k⟩))
  · exact .inr (.inr (.inl h))
theorem lex_app : ∀ {x y : List Nat}, x.length = y.length → x < y → ∀ (z w : List Nat), x ++ z < y ++ w
  | [], [], _, h, _, _ => absurd h (lexlt_irrefl _)
  | a :: x, b :: y, hl, h, z, w => by
    cases h with
    | rel k => exact List.Lex.rel k
    | cons k => exact List.Lex.cons (lex_app (by simpa using hl) k z w)
theorem lex_pre : ∀ (x : List Nat) {z w : List Nat}, z < w → x ++ z < x ++ w
  | [], _, _, h => h
  | a :: x, _, _, h => List.Lex.cons (lex_pre x h)
/-- an item of the search -/
structure It5 where
  p : Nat
  q : Nat
  r : Nat
  s : Nat
  c : Nat
def pairs (R : Nat) : List (Nat × Nat) := (List.range (R + 1)).flatMap fun i => (List.range (R + 1)).map fun j => (i, j)
def items (R : Nat) : List It5 := (pairs R).flatMap fun x => (pairs R).flatMap fun y => [97, 98].map fun c => ⟨x.1, x.2, y.1, y.2, c⟩
end Y
namespace Y
open PySem PySem.Spec PyProof.Rows L2
theorem ltP_iff (x y : List Nat) : ltP (x.length : Int) (y.length : Int) (tx x) (tx y) = true ↔ lt2 x y := by
  unfold ltP lt2
  by_cases h : x.length = y.length
  · rw [if_pos (by rw [h])]
    simp [h]
  · rw [if_neg (by omega)]
    simp [h]
def longer (l : List (List Nat)) : List (List Nat) := l.flatMap fun x => [x ++ [97], x ++ [98]]
def layer : Nat → List (List Nat)
  | 0 => [[]]
  | n + 1 => longer (layer n)
def allRows : Nat → List (List Nat)
  | 0 => [[]]
  | n + 1 => allRows n ++ layer (n + 1)
theorem layer_mem : ∀ {n : Nat} {x : List Nat}, x ∈ layer n ↔ x.length = n ∧ ∀ c ∈ x, AB c
  | 0, x => by
    constructor
    · intro h; rw [List.mem_singleton.mp h]; exact ⟨rfl, fun _ h => (nomatch h)⟩
    · rintro ⟨h, _⟩; rw [List.length_eq_zero_iff.mp h]; exact List.mem_singleton.mpr rfl
  | n + 1, x => by
    unfold layer longer
    rw [List.mem_flatMap]
    constructor
    · rintro ⟨y, hy, hx⟩
      obtain ⟨h1, h2⟩ := layer_mem.mp hy
      simp only [List.mem_cons, List.not_mem_nil, or_false] at hx
      rcases hx with rfl | rfl
      · exact ⟨by simp [h1], fun c hc => by
          rcases List.mem_append.mp hc with k | k
          · exact h2 c k
          · exact .inl (List.mem_singleton.mp k)⟩
      · exact ⟨by simp [h1], fun c hc => by
          rcases List.mem_append.mp hc with k | k
          · exact h2 c k
          · exact .inr (List.mem_singleton.mp k)⟩
    · rintro ⟨h1, h2⟩
      obtain ⟨y, c, rfl⟩ : ∃ y c, x = y ++ [c] := ⟨x.dropLast, x.getLast (by intro z; rw [z] at h1; simp at h1), (List.dropLast_concat_getLast _).symm⟩
      refine ⟨y, layer_mem.mpr ⟨by simpa using h1, fun d hd => h2 d (by simp [hd])⟩, ?_⟩
      rcases h2 c (by simp) with rfl | rfl
      · simp
      · simp
theorem layer_sorted : ∀ n : Nat, (layer n).Pairwise (· < ·)
  | 0 => by unfold layer; exact List.pairwise_singleton _ _
  | n + 1 => by
    have ih := layer_sorted n
    unfold layer longer
    rw [List.pairwise_flatMap]
    refine ⟨fun x _ => ?_, ?_⟩
    · refine List.pairwise_cons.mpr ⟨fun y hy => ?_, List.pairwise_singleton _ _⟩
      rw [List.mem_singleton.mp hy]
      exact lex_pre x (List.Lex.rel (by decide))
    · refine List.Pairwise.imp_of_mem (fun {x y} hx hy hlt => ?_) ih
      have l1 := (layer_mem.mp hx).1
      have l2 := (layer_mem.mp hy).1
      intro p hp q hq
      simp only [List.mem_cons, List.not_mem_nil, or_false] at hp hq
      rcases hp with rfl | rfl <;> rcases hq with rfl | rfl <;> exact lex_app (by rw [l1, l2]) hlt _ _
theorem allRows_mem : ∀ {n : Nat} {x : List Nat}, x ∈ allRows n ↔ x.length ≤ n ∧ ∀ c ∈ x, AB c
  | 0, x => by
    have := layer_mem (n := 0) (x := x)
    show x ∈ layer 0 ↔ _
    rw [this]
    constructor
    · rintro ⟨h1, h2⟩; exact ⟨by omega, h2⟩
    · rintro ⟨h1, h2⟩; exact ⟨by omega, h2⟩
  | n + 1, x => by
    unfold allRows
    rw [List.mem_append, allRows_mem, layer_mem]
    constructor
    · rintro (⟨h1, h2⟩ | ⟨h1, h2⟩)
      · exact ⟨by omega, h2⟩
      · exact ⟨by omega, h2⟩
    · rintro ⟨h1, h2⟩
      by_cases h : x.length ≤ n
      · exact .inl ⟨h, h2⟩
      · exact .inr ⟨by omega, h2⟩
theorem allRows_sorted : ∀ n : Nat, (allRows n).Pairwise lt2
  | 0 => by unfold allRows; exact List.pairwise_singleton _ _
  | n + 1 => by
    unfold allRows
    rw [List.pairwise_append]
    refine ⟨allRows_sorted n, ?_, fun x hx y hy => ?_⟩
    · refine List.Pairwise.imp_of_mem (fun {x y} hx hy hlt => ?_) (layer_sorted (n + 1))
      exact .inr ⟨by rw [(layer_mem.mp hx).1, (layer_mem.mp hy).1], hlt⟩
    · exact .inl (by have := (allRows_mem.mp hx).1; have := (layer_mem.mp hy).1; omega)
theorem layer_len : ∀ n : Nat, (layer n).length = 2 ^ n
  | 0 => rfl
  | n + 1 => by
    unfold layer longer
    rw [List.length_flatMap]
    have : (List.map (fun x : List Nat => [x ++ [97], x ++ [98]].length) (layer n)).sum = (layer n).length * 2 := by
      induction layer n with
      | nil => rfl
      | cons a l ih => rw [List.map_cons, List.sum_cons, ih, List.length_cons]; show 2 + l.length * 2 = (l.length + 1) * 2; omega
    rw [this, layer_len n]; omega
theorem allRows_len : ∀ n : Nat, (allRows n).length + 1 = 2 ^ (n + 1)
  | 0 => rfl
  | n + 1 => by
    unfold allRows
    rw [List.length_append, layer_len]
    have := allRows_len n
    omega
end Y
namespace Y
open PySem PySem.Spec PyProof.Rows L2
section
variable {S S1 S2 : SL} {w w1 w2 w3 : Bx} {m k : SM} {f fa fb fo : EM} {fs : AM} {t ta tb : TM} {d e z : D} {ds es : List D} {i j : Nat} {b : Bool} {r r1 : RS} {c n : Str}
theorem s_0 {x y : Option SV} {l : SL} : (x :: l).set 0 y = y :: l := rfl
end
end Y
namespace Y
open PySem PySem.Spec PyProof.Rows L2
section
variable {X : Cx} {g : G} {E : EK} {e a b o v1 v2 : Expr} {es rest : List Expr} {pos p p2 : Pos} {f fa fb fo : EM} {fs : List EM} {x c m : Str} {k n : Nat} {mm : List D → Bx → R D}
end
section
variable {S : SL} {w w1 w2 : Bx} {f : EM} {d : D} {fs : List EM} {acc y : Str} {r : R D} {c : Str} {mm : List D → Bx → R D} {n : Int}
end
end Y
namespace Y
open PySem PySem.Spec PyProof.Rows L2
section
variable {P : Program} {w : World} {A : Around} {R : Result → Shared → Prop} {s : Shared} {tg elt : Expr} {gs : List Comprehension} {scope : Scope} {pos : Pos} {ip : Pos} {k : Nat} {B : Sem Fin → Sem Fin} {it acc : Value} {env : Env}
end
section
variable {X : Cx}
end
end Y
namespace Y
open PySem PySem.Spec PyProof.Rows L2
section
variable {X : Cx} {g : G} {E : EK}
end
end Y
namespace Y
open PySem PySem.Spec PyProof.Rows L2
section
variable {P : Program} {w : World} {K : PySem.W.Frag} {mg : Str → Option Value} {base : Heap} {cls : CT} {x c : Str} {k n : Nat} {m : List D → Bx → R (List D)}
end
section
variable {X : Cx} {g : G} {E : EK} {e e2 a b c o : Expr} {es : List Expr} {pos p p2 apos : Pos} {fa fb f fo : EM} {fs ao : AM} {x cn mn : Str} {k n : Nat} {m : List D → Bx → R (List D)}
end
inductive RO where
  | ok (ds : List D) (w : Bx) | err (S : SL) (c : Str) (fs : List (Str × D)) (w : Bx) | bad
abbrev SMO := SL → Bx → RO
section
variable {X : Cx} {g : G} {E : EK} {F0 : FH} {H0 : Hp} {B : FH} {e a b c : Expr} {es : List Expr} {pos p p2 px apos : Pos} {fa fb f : EM} {fs ao : AM} {st : Stmt} {sts : List Stmt} {m : SM} {k : SMO} {N : Ends} {x : Str}
end
section
variable {P : Program} {w : World} {K : PySem.W.Frag} {mg : Str → Option Value} {base : Heap} {cls : CT}
end
end Y
namespace Y
open PySem PySem.Spec PyProof.Rows L2
def isLst : D → Bool
  | .lst _ => true
  | _ => false
def idxP (p : PyData) : PyData → Option D
  | .list ps => (ps.findIdx? fun z => PyData.eqv z p).map fun (j : Nat) => .int (j : Int)
  | _ => none
def mIndexL (d e : D) : Option D := if isLst d then (shp e).bind fun p => (shp d).bind fun q => idxP p q else none
def eIxL (fa fb : EM) : EM := fun S w => (fa S w).bind fun d w1 => if isLst d then (fb S w1).bind fun e w2 => R.ofO (mIndexL d e) w2 else .bad
section
variable {X : Cx} {g : G} {E : EK} {e a b c : Expr} {es : List Expr} {pos p apos : Pos} {fa fb f : EM}
theorem de_index (hK : g.K = X.K) (hu : X.A.units + 65 < cLine) (ha : DE X g E a fa) (hb : DE X g E b fb)
    (hq : ∀ (to te : TE), PE X a to → PE X b te → PE X (.Call (.Attribute a "index" apos) [b] [] p) (tBM X.K "list" (rIndexD X.K) to (tCons te tNil)) := by exact fun _ _ h1 h2 => pe_bm PySem.F.plainAttrs_list PySem.F.slot_list_index PySem.F.type_list_index (mt_indexD (by assumption)) h1 (pa_cons h2 pa_nil)) :
    DE X g E (.Call (.Attribute a "index" apos) [b] [] p) (eIxL fa fb) := by
  obtain ⟨ta, pa, ra⟩ := ha.run
  obtain ⟨tb, pb, rb⟩ := hb.run
  refine ⟨_, hq _ _ pa pb, fun σ H Q F S w R h => ?_⟩
  refine ra σ H _ F S w R (PostG.imp (PostG.bind h) fun d w1 hd h1 v H1 F1 x1 r1 => ?_)
  clear hd
  by_cases hd : isLst d = true
  · rw [if_pos hd] at h1
    cases r1 with
    | @lst q xs ds hq' rs =>
      refine ⟨.inl ⟨rfl, xs, SqL.of (x1.sub _ _ hq')⟩, rb σ H1 _ F1 S w1 (R.ext x1) (PostG.ext x1 (PostG.bind h1) fun e w2 h2 u H2 F2 x2 r2 => ?_)⟩
      obtain ⟨z, hz, k⟩ := post_ofO h2
      unfold mIndexL at hz
      rw [if_pos hd] at hz
      obtain ⟨y, e1, hz⟩ := Option.bind_eq_some_iff.mp hz
      obtain ⟨ps, e2, hz⟩ := Option.bind_eq_some_iff.mp hz
      obtain ⟨a1, a2⟩ := shp_some e1
      obtain ⟨b1, b2⟩ := shp_some e2
      have dl : DR g F2 (.ref q) (.lst ds) := .lst (x2.ff.fz _ _ hq') (rs.mono x2.ff)
      have dp1 := dp_of x2.sub dl b1
      have dp2 := dp_of x2.sub r2 a1
      rw [hK] at dp1 dp2
      cases ps with
      | list ps =>
        obtain ⟨j, hj, ez⟩ := Option.map_eq_some_iff.mp hz
        subst ez
        obtain ⟨hjl, hje, hno⟩ := List.findIdx?_eq_some_iff_getElem.mp hj
        refine ⟨q, u, y, ps, j, ps[j], rfl, rfl, dp1, dp2, b2, a2, List.getElem?_eq_getElem hjl, hje, fun m z' hm hz' => ?_, k _ H2 F2 (x1.trans x2) (.int _)⟩
        obtain ⟨hml, hme⟩ := List.getElem?_eq_some_iff.mp hz'
        have := hno m hm
        rw [hme] at this
        simpa using this
      | _ => cases hz
    | _ => cases hd
  · rw [if_neg hd] at h1; exact h1.elim
end
end Y
namespace Y
open PySem PySem.Spec PyProof.Rows L2
section
variable {α β : Type} {s : List Cell} {f fa fb fc : EM} {fs fi : AM} {t ta tb : TM} {m k body : SM} {mm : List D → Bx → R D} {gm : GM} {tm : TM} {em : EM} {i j l n : Nat} {c : Str}
end
section
variable {S S1 S2 : SL} {w w1 w2 w3 : Bx} {f fa fb fo : EM} {fs ao : AM} {d e z : D} {ds es : List D} {i n : Nat} {c m : Str} {b : Bool} {t : TM} {mO : List D → Bx → R (List D)}
theorem x_ixL (ha : fa S w = .ok (.lst ds) w1) (hb : fb S w1 = .ok e w2) (hm : mIndexL (.lst ds) e = some z) : eIxL fa fb S w = .ok z w2 := by
  unfold eIxL; rw [ha, R.bind_ok, if_pos (show isLst (.lst ds) = true from rfl), hb, R.bind_ok, hm]; rfl
end
end Y
namespace Y
open PySem PySem.Spec PyProof.Rows L2
theorem nice_strs {ys : List Str} (hy : ∀ y ∈ ys, PyData.strOk y = true) : niceN 2 (.lst (ys.map D.str)) := nice_list (n := 1) fun d hd => by
  obtain ⟨y, h, rfl⟩ := List.mem_map.mp hd
  exact hy y h
theorem toPys_str : ∀ ys : List Str, toPys (ys.map D.str) = some (ys.map PyData.str)
  | [] => by rw [List.map_nil, toPys, List.map_nil]
  | y :: ys => by rw [List.map_cons, toPys, toPys_str ys, toPy]; rfl
theorem shp_s {t : Str} (ht : PyData.strOk t = true) : shp (.str t) = some (.str t) := by
  obtain ⟨p, h1, h2⟩ := nice_shp (show niceN 1 (.str t) from ht) (by decide)
  rw [toPy] at h1; cases h1
  exact h2
theorem shp_ss {ys : List Str} (hy : ∀ y ∈ ys, PyData.strOk y = true) : shp (.lst (ys.map D.str)) = some (.list (ys.map PyData.str)) := by
  obtain ⟨q, h3, h4⟩ := nice_shp (nice_strs hy) (by decide)
  rw [toPy, toPys_str] at h3; cases h3
  exact h4
theorem eqv_ss (a b : Str) : PyData.eqv (.str a) (.str b) = decide (a = b) := by
  rw [eqv_strL (d := .str b) (by rw [toPy])]
  show decide (b = a) = _
  by_cases h : a = b
  · subst h; rfl
  · rw [decide_eq_false h, decide_eq_false fun e => h e.symm]
theorem index_texts {t : Str} {ys : List Str} (ht : PyData.strOk t = true) (hy : ∀ y ∈ ys, PyData.strOk y = true) : mIndexL (.lst (ys.map D.str)) (.str t) = (ys.findIdx? fun y => decide (y = t)).map fun (j : Nat) => D.int (j : Int) := by
  unfold mIndexL
  rw [if_pos (show isLst (.lst (ys.map D.str)) = true from rfl), shp_s ht, Option.bind_some, shp_ss hy, Option.bind_some]
  show Option.map _ (List.findIdx? (fun z => PyData.eqv z (.str t)) (ys.map PyData.str)) = _
  rw [List.findIdx?_map]
  rw [show ((fun z => PyData.eqv z (.str t)) ∘ PyData.str) = fun y => decide (y = t) from funext fun y => eqv_ss y t]
end Y
namespace Y
open PySem PySem.Spec PyProof.Rows L2
section
variable {g : G} {F F1 F2 : FH} {H H1 H2 : Hp} {w w1 w2 : Bx}
end
end Y
namespace Y
open PySem PySem.Spec PyProof.Rows L2
abbrev DKV := List (Key × D)
section
variable {g : G} {F : FH}
end
section
variable {g : G} {F : FH} {H : Hp} {w : Bx} {v : V} {d : D}
end
section
variable {X : Cx} {g : G} {E : EK} {F0 : FH} {H0 : Hp} {e a b o : Expr} {es : List Expr} {pos p apos tpos : Pos} {f fa fb fo fi : EM} {fs fl : AM} {c m : Str} {k n : Nat} {mm : List D → Bx → R D}
end
end Y
namespace Y
open PySem PySem.Spec PyProof.Rows L2
section
variable {g : G} {F : FH} {H : Hp} {w : Bx} {v : V} {d : D}
end
section
variable {X : Cx} {g : G} {E : EK} {F0 : FH} {H0 : Hp} {e a b o : Expr} {es : List Expr} {pos p apos tpos : Pos} {f fa fb fo fi fv : EM} {fs fl : AM} {c m : Str} {k n : Nat} {mm : List D → Bx → R D}
end
end Y
namespace Y
open PySem PySem.Spec PyProof.Rows L2
section
variable {g : G} {F : FH} {H : Hp} {w : Bx} {v : V} {d : D}
end
section
variable {X : Cx} {g : G} {E : EK} {e e2 a b o : Expr} {es : List Expr} {pos p p2 apos : Pos} {fa fb fo f : EM} {fs : AM} {x c m : Str} {k n : Nat} {mm : List D → Bx → R D} {mo : List D → Bx → R (List D)}
end
end Y
namespace Y
open PySem PySem.Spec PyProof.Rows L2
theorem relB_ok {v : V} {u : Value} (h : relB v u = true) : RelV v u := by
  unfold relB at h
  split at h
  · rw [beq_iff_eq] at h; subst h; exact ⟨_, rfl⟩
  · rw [beq_iff_eq] at h; subst h; exact ⟨_, rfl⟩
  · exact rfl
  · cases h
theorem relsB_ok : ∀ {vs : List V} {us : List Value}, relsB vs us = true → Vals vs us
  | [], [], _ => .nil
  | v :: vs, u :: us, h => by
    obtain ⟨h1, h2⟩ := He.ba (show (relB v u && relsB vs us) = true from h)
    exact .cons (relB_ok h1) (relsB_ok h2)
  | [], _ :: _, h => by cases h
  | _ :: _, [], h => by cases h
section
variable {T : Tell} {w : World} {h : Heap} {K : Fr}
theorem Says.fd (S : Says T w h K) (i : Nat) {x : FnA} (dvs : List V) (kws : List (Str × V)) (hb : dflB K (x.ad K) dvs kws = true) (e : T.fns[i]? = some x := by rfl) (hc : x.clo = [] := by rfl) : ∃ fd, FunD K x.nam x.qua (defArgs x.st) (defBody x.st) (defScope x.st) dvs kws (x.ad K) fd := by
  have e2 : (T.fns.map fun x => seeF K (x.ad K))[i]? = (T.fns.map FnA.due)[i]? := by rw [S.fn]
  rw [List.getElem?_map, List.getElem?_map, e] at e2
  have e1 : seeF K (x.ad K) = x.due := Option.some.inj e2
  have e3 := S.fo x (List.mem_of_getElem? e)
  unfold FnA.ok at e3
  unfold seeF at e1
  unfold dflB at hb
  cases q : K.lookup (x.ad K) with
  | none => rw [q] at e3; cases e3
  | some o =>
    obtain ⟨oc, od, dt, osl⟩ := o
    rw [q] at e1 e3 hb
    cases dt with
    | func fd =>
      obtain ⟨n1, n2, n3, n4, n5, n6, n7, n8, n9, n10, n11, n12, n13, n14, n15⟩ := fd
      obtain ⟨c1, c2⟩ := He.ba e3
      obtain ⟨_, c4⟩ := He.ba c2
      simp only [FnA.due, Option.some.injEq, Prod.mk.injEq] at e1
      obtain ⟨⟨h1, h2⟩, ⟨h3, h4, h5⟩, ⟨h6, h7⟩, h8⟩ := e1
      rw [hc] at h8
      have h8 : n7 = [] := List.map_eq_nil_iff.mp h8
      subst h1 h2 h3 h4 h5 h6 h7 h8
      obtain ⟨b1, b2⟩ := He.ba hb
      refine ⟨_, ⟨oc, od, n8, n9, n10, n11, n12, n13, n14, osl, rfl, q, c1, ?_, ?_⟩, c4⟩
      · cases dvs with
        | nil => exact .inl ⟨rfl, of_decide_eq_true b1⟩
        | cons v vs =>
          refine .inr ⟨by simp, ?_⟩
          cases n8 with
          | ref T =>
            dsimp only at b1
            cases q2 : K.lookup T with
            | none => rw [q2] at b1; cases b1
            | some o2 =>
              obtain ⟨d1, d2, d3, d4⟩ := o2
              rw [q2] at b1
              cases d3 with
              | seq its n => exact ⟨T, _, its.toList, n, rfl, q2, by simp, relsB_ok b1⟩
              | _ => cases b1
          | _ => cases b1
      · cases kws with
        | nil => exact .inl rfl
        | cons p ps =>
          refine .inr ?_
          cases n9 with
          | ref D =>
            dsimp only at b2
            refine ⟨D, rfl, fun z hz => ?_⟩
            have := List.all_eq_true.mp b2 z hz
            cases q3 : PySem.W.nsIn K D z.1 with
            | none => rw [q3] at this; cases this
            | some y =>
              rw [q3] at this
              cases y with
              | none => cases this
              | some u => exact ⟨u, rfl, relB_ok this⟩
          | _ => cases b2
    | _ => cases e3
end
section
variable {P : Program} {w : World} {K : PySem.W.Frag} {mg : Str → Option Value} {base : Heap} {cls : CT}
end
structure DKw (X : Cx) (g : G) (E : EK) (kws : List Keyword) (f : AM) : Prop where
  run : ∃ t, PK X kws t ∧ ∀ σ H Q F S w, Rel g F w S σ H → PostA g F H Q (E σ) (f S w) → t σ H Q
section
variable {X : Cx} {g : G} {E : EK} {e a b o : Expr} {es : List Expr} {pos p p2 kpos : Pos} {fs fk : AM} {x c : Str} {nm : Option Str} {kws : List Keyword} {fe : EM} {k : Nat} {n : Nat → Bool} {m : List D → Bx → R (List (Str × D))}
theorem dkw_nil : DKw X g E [] aNil := ⟨_, pk_nil, fun σ H Q F S w R h => h [] H F R.ex .nil⟩
theorem dkw_cons (ha : DE X g E e fe) (hr : DKw X g E kws fk) : DKw X g E (⟨nm, e, kpos⟩ :: kws) (aCons fe fk) := by
  obtain ⟨t, p, r⟩ := ha.run
  obtain ⟨t2, p2, r2⟩ := hr.run
  refine ⟨_, pk_cons p p2, fun σ H Q F S w R h => ?_⟩
  refine r σ H _ F S w R (PostG.imp (PostG.bind h) fun d w1 _ h1 v H1 F1 x1 q1 => ?_)
  refine r2 σ H1 _ F1 S w1 (R.ext x1) (PostG.ext x1 (PostG.bind h1) fun ds w2 h2 vs H2 F2 x2 q2 => ?_)
  exact h2 (v :: vs) H2 F2 (x1.trans x2) (.cons (q1.mono x2.ff) q2)
end
end Y
namespace Y
open PySem PySem.Spec PyProof.Rows L2
section
variable {X : Cx} {g : G} {E : EK} {F0 : FH} {H0 : Hp} {B : FH} {e a b o : Expr} {es : List Expr} {pos p apos : Pos} {f fa fb fo : EM} {c : Str} {tb : List (Str × Bool)} {m : SM}
end
section
variable {X : Cx} {g : G} {E : EK} {a b c : Expr} {pos : Pos} {fa fb fc : EM}
end
end Y
namespace Y
open PySem PySem.Spec PyProof.Rows L2 GenW
section
variable {M : Model} {A : Around} {R : GenEnd} {Y : Protocol} {n : Nat} {s₀ : Shared} {c : Code} {fs : List Frame} {s : Shared} {env : Env}
  {K : Flow → Sem PySem.Fin} {J : Value → Sem PySem.Fin} {gd : Bool → Bool} {lv : List Value → List Value}
end
section
variable {prog : Program} {w : World} {A : Around} {R : GenEnd} {Y : Protocol} {n : Nat} {s₀ : Shared} {fs : List Frame} {s : Shared} {env : Env}
end
section
variable {X : Cx} {tg iter : Expr} {body : List Stmt} {pos : Pos} {wi : TI} {g : TG} {tb : TGn}
end
end Y
namespace Y
open PySem PySem.Spec PyProof.Rows L2 GenW
inductive RG where
  | nx (S : SL) (w : Bx) (ys : List D) | bk (S : SL) (w : Bx) (ys : List D) | ct (S : SL) (w : Bx) (ys : List D) | bad
abbrev SG := List D → SL → Bx → RG
def PostGn (g : G) (F0 : FH) (H0 : Hp) (B : FH) (N : GEnds) : RG → Prop
  | .nx S w ds => ∀ (σ' : L2.St) (H' : Hp) (F' : FH) (ys : List V), RelS g F0 H0 B F' w S σ' H' → DRs g F' ys ds → N.nx ys σ' H'
  | .bk S w ds => ∀ (σ' : L2.St) (H' : Hp) (F' : FH) (ys : List V), RelS g F0 H0 B F' w S σ' H' → DRs g F' ys ds → N.bk ys σ' H'
  | .ct S w ds => ∀ (σ' : L2.St) (H' : Hp) (F' : FH) (ys : List V), RelS g F0 H0 B F' w S σ' H' → DRs g F' ys ds → N.ct ys σ' H'
  | .bad => False
structure DGS (X : Cx) (g : G) (F0 : FH) (H0 : Hp) (st : Stmt) (m : SG) : Prop where
  run : ∃ t, GS X st t ∧ ∀ (N : GEnds) (ys : List V) (ds : List D) (σ : L2.St) (H : Hp) (F : FH) (S : SL) (w : Bx) (B : FH), RelS g F0 H0 B F w S σ H → DRs g F ys ds → PostGn g F0 H0 B N (m ds S w) → t N ys σ H
structure DGSs (X : Cx) (g : G) (F0 : FH) (H0 : Hp) (st : List Stmt) (m : SG) : Prop where
  run : ∃ t, GSs X st t ∧ ∀ (N : GEnds) (ys : List V) (ds : List D) (σ : L2.St) (H : Hp) (F : FH) (S : SL) (w : Bx) (B : FH), RelS g F0 H0 B F w S σ H → DRs g F ys ds → PostGn g F0 H0 B N (m ds S w) → t N ys σ H
def gPl (m : SM) : SG := fun ds S w => match m S w with
  | .nx S1 w1 => .nx S1 w1 ds
  | .bk S1 w1 => .bk S1 w1 ds
  | .ct S1 w1 => .ct S1 w1 ds
  | _ => .bad
def gNil : SG := fun ds S w => .nx S w ds
def gSq (m k : SG) : SG := fun ds S w => match m ds S w with
  | .nx S1 w1 ds1 => k ds1 S1 w1
  | r => r
def gYield (f : EM) : SG := fun ds S w => if ds.length < sizeN then (match f S w with
  | .ok d w1 => .nx S w1 (ds ++ [d])
  | _ => .bad) else .bad
def forLoopG (gm : GM) (body : SG) : List D → List D → SL → Bx → RG
  | [], ds, S, w => .nx S w ds
  | e :: es, ds, S, w => match gm e S with
    | none => .bad
    | some S1 => match body ds S1 w with
      | .nx S2 w2 ds2 => forLoopG gm body es ds2 S2 w2
      | .ct S2 w2 ds2 => forLoopG gm body es ds2 S2 w2
      | .bk S2 w2 ds2 => .nx S2 w2 ds2
      | .bad => .bad
def gFor (fi : AM) (gm : GM) (body : SG) : SG := fun ds S w => match fi S w with
  | .ok es w1 => forLoopG gm body es ds S w1
  | _ => .bad
def whLoopG (tm : TM) (body : SG) : Nat → SG
  | 0, _, _, _ => .bad
  | n + 1, ds, S, w => match tm S w with
    | .ok b w1 => if b then (match body ds S w1 with
      | .nx S2 w2 ds2 => whLoopG tm body n ds2 S2 w2
      | .ct S2 w2 ds2 => whLoopG tm body n ds2 S2 w2
      | .bk S2 w2 ds2 => .nx S2 w2 ds2
      | .bad => .bad) else .nx S w1 ds
    | _ => .bad
def gWhile (n : SL → Nat) (tm : TM) (body : SG) : SG := fun ds S w => whLoopG tm body (n S) ds S w
section
variable {X : Cx} {g : G} {F0 : FH} {H0 : Hp} {e tg iter : Expr} {pos yp : Pos} {st : Stmt} {sts body : List Stmt} {m : SM} {mg mg2 : SG} {f : EM} {fi : AM} {gm : GM} {ns : List Nat} {tm : TM}
theorem dgs_plain (h : DS X g (kE E0) F0 H0 st m) : DGS X g F0 H0 st (gPl m) := by
  obtain ⟨t, p, r⟩ := h.run
  refine ⟨_, gs_ps p, fun N ys ds σ H F S w B R rd h => ?_⟩
  refine r (N.at ys) σ H F S w F { R with fl := FSame.refl F } ?_
  unfold gPl at h
  cases hm : m S w with
  | nx S1 w1 => rw [hm] at h; exact fun σ' H' F' R' => h σ' H' F' ys { R' with fl := R.fl.trans R'.fl } (rd.mono R'.fl)
  | bk S1 w1 => rw [hm] at h; exact fun σ' H' F' R' => h σ' H' F' ys { R' with fl := R.fl.trans R'.fl } (rd.mono R'.fl)
  | ct S1 w1 => rw [hm] at h; exact fun σ' H' F' R' => h σ' H' F' ys { R' with fl := R.fl.trans R'.fl } (rd.mono R'.fl)
  | rt d w1 => rw [hm] at h; exact h.elim
  | err S1 c fs w1 => rw [hm] at h; exact h.elim
  | bad => rw [hm] at h; exact h.elim
theorem dgss_nil : DGSs X g F0 H0 [] gNil := ⟨_, gss_nil, fun N ys ds σ H F S w B R rd h => h σ H F ys R rd⟩
theorem dgss_cons (h1 : DGS X g F0 H0 st mg) (h2 : DGSs X g F0 H0 sts mg2) : DGSs X g F0 H0 (st :: sts) (gSq mg mg2) := by
  obtain ⟨t, p, r⟩ := h1.run
  obtain ⟨t2, p2, r2⟩ := h2.run
  refine ⟨_, gss_cons p p2, fun N ys ds σ H F S w B R rd h => ?_⟩
  refine r { N with nx := fun ys' σ' H' => t2 N ys' σ' H' } ys ds σ H F S w B R rd ?_
  unfold gSq at h
  cases hm : mg ds S w with
  | nx S1 w1 ds1 => rw [hm] at h; exact fun σ' H' F' ys' R' rd' => r2 N ys' ds1 σ' H' F' S1 w1 B R' rd' h
  | bk S1 w1 ds1 => rw [hm] at h; exact h
  | ct S1 w1 ds1 => rw [hm] at h; exact h
  | bad => rw [hm] at h; exact h
theorem dgs_yield (he : DE X g (kE E0) e f) (hco : X.env.scope.isCoroutine = false := by rfl) (hi : interactive X.env = false := by rfl) : DGS X g F0 H0 (.Expr (.Yield (some e) yp) pos) (gYield f) := by
  obtain ⟨t, p, r⟩ := he.run
  refine ⟨_, gs_yield p hco hi, fun N ys ds σ H F S w B R rd h => ?_⟩
  unfold gYield at h
  by_cases hl : ds.length < sizeN
  · rw [if_pos hl] at h
    refine ⟨by rw [rd.length]; exact hl, r σ H _ F S w R.rel ?_⟩
    cases hf : f S w with
    | ok d w1 => rw [hf] at h; exact fun v H' F' x rv => h σ H' F' (ys ++ [v]) (R.ext' x) ((rd.mono x.ff).append (.cons rv .nil))
    | err c fs w1 => rw [hf] at h; exact h.elim
    | bad => rw [hf] at h; exact h.elim
  · rw [if_neg hl] at h; exact h.elim
theorem dgs_while (n : SL → Nat) (hp : PassesOwn (model X.prog X.w) X.A X.env X.xe) (hc : DT X g (kE E0) e tm) (hb : DGSs X g F0 H0 body mg) : DGS X g F0 H0 (.While e body [] pos) (gWhile n tm mg) := by
  obtain ⟨t, p, r⟩ := hc.run
  obtain ⟨tb, pb, rb⟩ := hb.run
  refine ⟨_, gs_while hp p pb, fun N ys ds σ H F S w B R rd h => ?_⟩
  refine ⟨fun k ys2 σ2 H2 => ∃ F2 S2 w2 ds2, RelS g F0 H0 B F2 w2 S2 σ2 H2 ∧ DRs g F2 ys2 ds2 ∧ PostGn g F0 H0 B N (whLoopG tm mg k ds2 S2 w2), ⟨n S, F, S, w, ds, R, rd, h⟩, fun k ys2 σ2 H2 hW => ?_⟩
  obtain ⟨F2, S2, w2, ds2, R2, rd2, hpost⟩ := hW
  cases k with
  | zero => exact hpost.elim
  | succ k =>
    unfold whLoopG at hpost
    refine r σ2 H2 _ F2 S2 w2 R2.rel ?_
    cases htm : tm S2 w2 with
    | err c fs w1 => rw [htm] at hpost; exact hpost.elim
    | bad => rw [htm] at hpost; exact hpost.elim
    | ok b w3 =>
      rw [htm] at hpost
      intro H3 F3 x3
      have R3 := R2.ext' x3
      cases b with
      | false => exact iteF (hpost σ2 H3 F3 ys2 R3 (rd2.mono x3.ff))
      | true =>
        refine iteT ⟨fun ys4 σ4 H4 => ∃ F4 S4 w4 ds4, RelS g F0 H0 B F4 w4 S4 σ4 H4 ∧ DRs g F4 ys4 ds4 ∧ PostGn g F0 H0 B N (whLoopG tm mg k ds4 S4 w4), fun ys4 σ4 H4 h4 => ⟨k, Nat.lt_succ_self k, h4⟩, ?_⟩
        refine rb _ ys2 ds2 σ2 H3 F3 S2 w3 B R3 (rd2.mono x3.ff) ?_
        simp only [if_true] at hpost
        cases hbd : mg ds2 S2 w3 with
        | nx S4 w4 ds4 => rw [hbd] at hpost; exact fun σ4 H4 F4 ys4 R4 rd4 => ⟨F4, S4, w4, ds4, R4, rd4, hpost⟩
        | ct S4 w4 ds4 => rw [hbd] at hpost; exact fun σ4 H4 F4 ys4 R4 rd4 => ⟨F4, S4, w4, ds4, R4, rd4, hpost⟩
        | bk S4 w4 ds4 => rw [hbd] at hpost; exact hpost
        | bad => rw [hbd] at hpost; exact hpost
end
def runG (k n : Nat) (body : SG) : List D → Bx → R (List D) := fun ds w => if ds.length = k then (match body [] (startS n ds) w with
  | .nx _ w1 es => .ok es w1
  | _ => .bad) else .bad
def spMG (K : PySem.W.Frag) (cls : CT) (n : Nat) (mo : List D → Bx → R (List D)) : SpG := fun vs H Q _ => vs.length = n ∧ ∃ (bx : BQ) (F : FH) (ds : List D) (w : Bx), Same F H ∧ BxOk ⟨K, cls, bx⟩ F w H ∧ DRs ⟨K, cls, bx⟩ F vs ds ∧
  match mo ds w with
  | .ok es w1 => ∀ (us : List V) (H' : Hp) (F' : FH), Ext ⟨K, cls, bx⟩ F H F' H' w1 → DRs ⟨K, cls, bx⟩ F' us es → Q us H'
  | _ => False
section
variable {P : Program} {w : World} {K : PySem.W.Frag} {mg : Str → Option Value} {base : Heap} {cls : CT}
theorem gfnok_of {x qual : Str} {st : Stmt} {f : Addr} {fd : FuncData} {N ps : List Str} {k : Nat} {body : SG} (F : Fun K x qual st f fd) (S : GScope N ps (defScope st))
    (hbody : ∀ (cdv : Value) (A : Around) (outer : List Env) (s : Shared) (H : Hp) (E : XK) (pn : List (Addr × Obj)) (bx : BQ) (F0 : FH), Room k (A.deeper (envOfC qual (defScope st) s.heap.objs.size f cdv)) →
      DGSs (gcxOf P w K mg base N qual (defScope st) f cdv A outer s H E pn) ⟨K, cls, bx⟩ F0 H (defBody st) body) : GFn P w K mg base (k + 1) f fd ps (spMG K cls ps.length (runG ps.length N.length body)) := by
  obtain ⟨oc, od, kV, dc, pm, an, cv, ct, sl, rfl, lk, hcd⟩ := F.ex
  refine gfn_of lk hcd S (fun vs H Q E h => h.1) fun A outer s H vs Q E pn hr h => ?_
  obtain ⟨hl, bx, F0, ds, w0, s1, b1, rd, hp⟩ := h
  obtain ⟨t, pt, rt⟩ := (hbody cv A outer s H E pn bx F0 hr).run
  refine ⟨t, pt, rt _ [] [] (start N vs) H F0 (startS N.length ds) w0 F0 (rel_start s1 b1 rd) .nil ?_⟩
  unfold runG at hp
  rw [if_pos (by rw [← rd.length]; exact hl)] at hp
  cases hbd : body [] (startS N.length ds) w0 with
  | nx S1 w1 es => simp only [hbd] at hp; exact fun σ' H' F' ys R' rs => hp ys H' F' R'.ext rs
  | bk S1 w1 es => simp only [hbd] at hp
  | ct S1 w1 es => simp only [hbd] at hp
  | bad => simp only [hbd] at hp
end
section
variable {X : Cx} {g : G} {E : EK} {o : Expr} {pos pos' p apos : Pos} {fo : EM} {c m : Str} {k : Nat} {mo : List D → Bx → R (List D)}
end
end Y
namespace Y
open PySem PySem.Spec PyProof.Rows L2
section
variable {X : Cx} {body : List Stmt} {b₀ f₀ : Stmt} {fin : List Stmt} {t : Expr} {cs : List Value} {pos hp rp : Pos} {tb : WX → TS} {ts tf tfs : TS} {Wout : WX}
end
end Y
namespace Y
open PySem PySem.Spec PyProof.Rows L2
open L2H (RoomH roomH_of)
section
variable {prog : Program} {w : World} {A : Around} {E : Value → Shared → Prop} {s : Shared}
end
section
variable {P : Program} {w : World} {K : PySem.W.Frag} {mg : Str → Option Value} {base : Heap} {cls : CT}
end
section
variable {X : Cx} {g : G} {e o : Expr} {es : List Expr} {pos apos : Pos} {fo : EM} {fs : AM} {c m : Str} {k n : Nat} {mm : List D → Bx → R D} {C f : Addr} {fd : FuncData} {ps : List Str} {sp : Sp} {E : XK} {ta : TE} {t : TA}
end
section
variable {X : Cx} {g : G} {E : EK} {F0 : FH} {H0 : Hp} {body fin : List Stmt} {b₀ f₀ : Stmt} {mb ms mf : SM} {t : Expr} {cs : List Value} {L : List Str} {pos hp rp : Pos}
end
end Y
namespace Y
open PySem PySem.Spec PyProof.Rows L2
section
variable {P : Program} {w : World} {K : PySem.W.Frag} {mg : Str → Option Value} {base : Heap} {cls : CT}
end
section
variable {X : Cx} {g : G} {e o : Expr} {es : List Expr} {pos apos : Pos} {fo : EM} {fs : AM} {c m : Str} {k : Nat} {n : Nat → Bool} {mm : List D → Bx → R D} {E : XK}
end
section
variable {X : Cx} {g : G} {E : EK} {F0 : FH} {H0 : Hp} {body : List Stmt} {m : SM} {pos p : Pos} {gm : GM} {ns : List Nat} {tg : Expr}
end
end Y
namespace Y
open PySem PySem.Spec PyProof.Rows L2
section
variable {X : Cx} {g : G} {E : EK} {x : Str} {t : List (Str × Int)} {b : Expr} {fb : EM} {p pos : Pos}
end
end Y
namespace Y
open PySem PySem.Spec PyProof.Rows L2
open L2H (RoomH roomH_of)
section
variable {X : Cx} {g : G} {E : EK} {x : Str} {t : List (Str × Int)} {b : Expr} {fb : EM} {p pos : Pos}
end
section
variable {X : Cx} {g : G} {E : EK} {e o : Expr} {es : List Expr} {pos apos : Pos} {fo : EM} {fs : AM} {c m : Str} {k n : Nat} {mm : List D → Bx → R D} {C f : Addr} {fd : FuncData} {ps : List Str} {sp : Sp} {ta : TE} {t : TA}
end
section
variable {X : Cx} {g : G} {E : EK} {F0 : FH} {H0 : Hp} {body fin : List Stmt} {b₀ f₀ : Stmt} {mb ms mf : SM} {es : List Expr} {xs L : List Str} {pos hp rp tpos : Pos} {k : Nat}
end
section
variable {T : Tell} {w : World} {h : Heap} {K : Fr}
end
end Y
namespace Y
open PySem PySem.Spec PyProof.Rows L2
section
variable {X : Cx} {g : G} {E : EK} {x : Str} {t : List (Str × Int)} {a b : Expr} {fa fb : EM} {p pos : Pos}
end
end Y
namespace Y
open PySem PySem.Spec PyProof.Rows L2
section
variable {X : Cx}
end
section
variable {X : Cx} {g : G} {E : EK} {a b : Expr} {fa fb : EM} {pos : Pos}
end
end Y
namespace Y
section
open PySem PySem.Spec PyProof.Rows PySem.Builtin PySem.Builtin.Str PySem.Builtin.Int PySem.Builtin.Float
section
variable {X : L2.Cx} {e : Expr} {te : L2.TE} {sp : Str} {n k : Nat} {pos p1 p2 : Pos}
end
end
open PySem PySem.Spec PyProof.Rows L2
section
variable {X : Cx} {g : G} {E : EK} {a : Expr} {fa : EM} {sp : Str} {n k : Nat} {pos p1 p2 : Pos}
end
section
variable {X : Cx} {CX : CXT} {k : Nat} {C p g a dx : Addr} {fs : List (Str × V)} {f : Str} {fd : FuncData} {ps : List Str} {sp : Sp} {E : XK} {o value : Expr} {pos pos' : Pos} {ta tv : TE} {y : V} {u : Value}
end
section
variable {X : Cx} {g : G} {E : XK} {F0 : FH} {H0 : Hp} {a o : Expr} {pos tpos : Pos} {fa fo : EM} {c : Str} {k : Nat} {mm : List D → Bx → R D}
end
section
variable {X : Cx} {pins : List (Addr × Obj)} {σ : L2.St} {H : Hp} {s : Shared} {a : Addr} {d : V} {r : Value} {A : Around} {E : Value → Shared → Prop}
end
section
variable {X : Cx} {o e f : Expr} {td ty tx : TE} {apos cpos : Pos}
end
section
variable {X : Cx} {g : G} {E : EK} {a b c : Expr} {pos apos : Pos} {fa fb fc : EM}
end
section
variable {X : Cx} {g : G} {E : EK} {pos : Pos}
end
end Y
namespace Y
open PySem PySem.Spec PyProof.Rows L2
section
variable {S S1 S2 : SL} {w w1 w2 w3 : Bx} {f fa fb fo fk fv h : EM} {fs gs : AM} {ka : SL → Bx → R DKV} {ks : DKV} {d e z x : D} {ds es : List D} {i : Nat} {b ng : Bool} {c n m : Str} {mm : List D → Bx → R D} {mo : List D → Bx → R (List D)} {mi : List D → Bx → R (List (Str × D))} {fl : List (Str × D)} {nn : Nat → Bool} {k k2 : Nat} {k0 : Key}
end
end Y
namespace Y
open PySem PySem.Spec PyProof.Rows L2
section
variable {S : SL} {w w1 w2 w3 : Bx} {fa fb fc : EM} {m1 m2 : D → D → Option D} {d e q z : D}
end
/-- the cells of a room -/
structure Ids where
  a : Nat
  b : Nat
  d : Nat
  e : Nat
  p : Nat
  f : Nat
/-- what a room holds -/
structure RM where
  lines : List D
  scripts : List D
  drafts : DKV
  done : List D
  past : List D
  future : List D
  most : Int
section
variable {w : Bx} {c : Str} {i : Nat} {x : Ids} {m : RM} {hd : Bool}
end
section
variable {S : SL} {w : Bx} {fs : AM} {ds : List D} {ks : DKV} {ka : SL → Bx → R DKV} {cs : List Cell}
end
section
variable {w : Bx} {c : Str} {i : Nat} {x : Ids} {m : RM} {hd : Bool} {cs : List Cell}
end
end Y
namespace Y
open PySem PySem.Spec PyProof.Rows L2
section
variable {w w' : Bx} {c : Str} {i : Nat} {x : Ids} {m : RM} {hd : Bool} {ds : List D} {ks : DKV}
end
end Y
namespace Y
open PySem PySem.Spec PyProof.Rows L2
section
variable {α : Type}
variable {g : α → D} {l : List (Str × α)} {n : Str} {v : α}
end
abbrev Dr := Nat × List Ed
structure Md where
  rows : List (List Nat)
  made : List (Option (List Ed))
  drafts : List (Str × Dr)
  done : List D
/-- what a room refuses -/
inductive Er where
  | badName (n : Str) | dupName (n : Str) | cap (k : Int) | unkName (n : Str) | nothing | long
  | untraced (k : Nat) | conflict (k : Nat) | order (n : Str) | noCarry (n : Str) | badEdit
section
variable {nm : Str → Bool} {s : Md} {n : Str} {e : Ed}
end
end Y
namespace Y
open PySem PySem.Spec PyProof.Rows L2
section
variable {S S1 S2 S3 : SL} {w w1 w2 w3 : Bx} {mb ms mf body : SM} {L : List Str} {c m : Str} {fs : List (Str × D)} {gm : GM} {fo : EM} {as : AM} {ds es : List D} {d z : D} {mm : List D → Bx → R D} {nn : Nat → Bool}
end
section
variable {S : SL} {w w1 w2 : Bx} {f fo fk fv : EM} {as : AM} {c : Str} {l : List (Str × D)} {d : D}
end
section
variable {α : Type} {g : α → D} {l : List (Str × α)} {n : Str} {v : α} {w : Bx} {d : D}
end
section
variable {w : Bx} {c : Str} {i : Nat} {x : Ids} {m : RM} {hd : Bool}
end
section
variable {S : SL} {w : Bx} {l : List Nat} {mo : Int} {fs gs : AM} {c : Str} {m : List D → Bx → R (List (Str × D))}
end
end Y
namespace Y
open PySem PySem.Spec PyProof.Rows L2
theorem getD_mem {α : Type} {l : List α} {k : Nat} {d : α} (h : k < l.length) : l.getD k d ∈ l := by
  rw [List.getD_eq_getElem?_getD, List.getElem?_eq_getElem h]; exact List.getElem_mem h
end Y
namespace Y
open PySem PySem.Spec PyProof.Rows L2
end Y
namespace Y
open PySem PySem.Spec PyProof.Rows L2
section
variable {S : SL} {w w1 w2 : Bx} {fo : EM} {fs : AM} {c m : Str} {k : Nat} {d z : D} {ds es : List D} {mm : Str → List D → Bx → R D} {mo : Str → List D → Bx → R (List D)}
end
end Y
namespace Y
open PySem PySem.Spec PyProof.Rows L2
section
variable {X : Cx} {g : G} {E : EK} {F0 : FH} {H0 : Hp} {body : List Stmt} {m : SM} {pos : Pos} {gm : GM} {ns : List Nat} {tg ex : Expr} {fa : EM}
end
end Y
namespace Y
open PySem PySem.Spec PyProof.Rows L2
section
variable {X : Cx} {g : G} {o : Expr} {pos apos : Pos} {fo : EM} {c m : Str} {k : Nat} {n : Nat → Bool} {mm : List D → Bx → R D} {E : XK}
end
end Y
namespace Y
open PySem PySem.Spec PyProof.Rows L2
section
variable {X : Cx} {g : G} {E : EK} {e a b o : Expr} {pos p p2 : Pos} {f fa fb : EM} {x c c2 m : Str} {k n : Nat} {mm : List D → Bx → R D}
end
section
variable {S : SL} {w w1 w2 w3 : Bx} {fa fb : EM} {d e : D} {r : R D} {c c2 : Str} {mm : List D → Bx → R D} {b : Bool}
end
end Y
namespace Y
open PySem PySem.Spec PyProof.Rows L2
section
variable {X : Cx} {g : G} {E : EK} {F0 : FH} {H0 : Hp} {en pre : Str} {i j : Nat} {t : Expr} {cs : List Value} {L : List Str} {body : List Stmt} {mb : SM} {q1 q2 q3 q4 q5 q6 cpos pos : Pos}
end
section
variable {L : List Str} {pre z : Str} {mb : SM} {S S1 : SL} {w w1 : Bx} {c : Str} {fs : List (Str × D)} {d : D}
end
end Y
namespace Y
open PySem PySem.Spec PyProof.Rows L2
end Y
namespace Y
open PySem PySem.Spec PyProof.Rows L2
section
variable {X : Cx} {g : G} {pos p : Pos} {fk : AM} {c : Str} {k : Nat} {m : List D → Bx → R (List (Str × D))} {kws : List Keyword}
end
end Y
namespace Y
open PySem PySem.Spec PyProof.Rows L2 GenW
/-- a generator's call: the def's frame; the loop's list S; what the loop keeps of a state in which it wakes the generator; the generator's own object -/
structure GP where
  P : Program
  w : World
  K : PySem.W.Frag
  mg : Str → Option Value
  base : Heap
  N : List Str
  qual : Str
  scope : Scope
  f : Addr
  cd : Value
  A : Around
  outer : List Env
  n : Nat
  sc : Shared
  S : Addr
  good : Shared → Hp → FH → List D → Prop
  own : Addr × Obj
  fin : List D
abbrev GP.env (Φ : GP) : Env := envOfC Φ.qual Φ.scope Φ.n Φ.f Φ.cd
/-- its context, over any state h0 of the objects that were there at the call -/
abbrev GP.X (Φ : GP) (h0 : Heap) (H0 : Hp) : Cx where
  prog := Φ.P
  w := Φ.w
  K := Φ.K
  mg := Φ.mg
  base := Φ.base
  A := Φ.A.deeper Φ.env
  N := Φ.N
  s_0 := { Φ.sc with heap := h0 }
  H_0 := H0
  env := Φ.env
  outer := Φ.outer
  stack := Φ.env :: Φ.outer
  ex := []
  calm := true
  fn := fun _ => true
  pn := [Φ.own]
  xe := fun _ _ => False
def NoOwn (S : SL) : Prop := ∀ (i : Nat) (ds : List D), S[i]? ≠ some (some (.own ds))
theorem NoOwn.set {S : SL} (h : NoOwn S) (i : Nat) (d : D) : NoOwn (S.set i (some (.dat d))) := fun j ds e => by
  by_cases hij : i = j
  · subst hij
    rw [List.getElem?_set] at e
    simp only [if_true] at e
    split at e <;> cases e
  · rw [List.getElem?_set_ne hij] at e
    exact h j ds e
/-- woken in s, ds is out -/
def WK (Φ : GP) (ip : List (Addr × Obj)) (ds : List D) (σ : L2.St) (H : Hp) (F : FH) (s : Shared) : Prop :=
  ∃ (h0 : Heap) (acc : Array Value) (c : Nat), Inv (Φ.X h0 H) ((Φ.S, lstObj acc c) :: ip) σ H s ∧ h0.objs.size = Φ.n ∧ (∀ b, b < Φ.n → h0.get? b = s.heap.get? b) ∧ Φ.good s H F ds
/-- running, woken in s₀ -/
structure GAt (Φ : GP) (g : G) (B : FH) (ip : List (Addr × Obj)) (s₀ s : Shared) (ds : List D) (σ : L2.St) (H : Hp) (F : FH) (S : SL) (w : Bx) (h0 : Heap) (H0 : Hp) (F0 : FH) (acc : Array Value) (c : Nat) : Prop where
  inv : Inv (Φ.X h0 H0) ((Φ.S, lstObj acc c) :: ip) σ H s
  rel : RelS g F0 H0 B F w S σ H
  no : NoOwn S
  sz : h0.objs.size = Φ.n
  get : ∀ b, b < Φ.n → h0.get? b = s₀.heap.get? b
  good : Φ.good s₀ H0 F0 ds
def GSt (Φ : GP) (g : G) (B : FH) (ip : List (Addr × Obj)) (s₀ s : Shared) (ds : List D) (σ : L2.St) (H : Hp) (F : FH) (S : SL) (w : Bx) : Prop :=
  ∃ h0 H0 F0 acc c, GAt Φ g B ip s₀ s ds σ H F S w h0 H0 F0 acc c
/-- an item is handed out; woken when the loop has put it into S -/
def GYF (Φ : GP) (g : G) : Protocol := fun n s₀ v s kap =>
  ∃ (x : V) (ds : List D) (d : D) (ip : List (Addr × Obj)) (σ : L2.St) (H : Hp) (F B : FH) (S : SL) (w : Bx), n + 1 + ds.length = sizeLine ∧ RelV x v ∧ (∀ p ∈ ip, Φ.n ≤ p.1) ∧
    GSt Φ g B ip s₀ s ds σ H F S w ∧ DR g F x d ∧ (ds ++ [d]) <+: Φ.fin ∧ ∀ s' F' H', Ext g F H F' H' w → WK Φ ip (ds ++ [d]) σ H' F' s' → kap (.send .none) s'
structure GCF (Φ : GP) (ip : List (Addr × Obj)) (A : Around) (c : Code) (fs : List Frame) (gd : Bool → Bool) : Prop where
  ip : ∀ p ∈ ip, Φ.n ≤ p.1
  over : A.over c fs = Φ.A.deeper Φ.env
  split : splitAtGen fs = none
  guard : fs.any Frame.guarded = false
  gd : gd false = false
/-- what follows -/
def PostF (Φ : GP) (g : G) (B : FH) (ip : List (Addr × Obj)) (k : Flow → Nat → Shared → Shared → Prop) : RG → Prop
  | .nx S1 w1 ds1 => ds1 <+: Φ.fin ∧ ∀ (n' : Nat) (s₀' s' : Shared) (σ' : L2.St) (H' : Hp) (F' : FH), n' + ds1.length = sizeLine → GSt Φ g B ip s₀' s' ds1 σ' H' F' S1 w1 → k .next n' s₀' s'
  | .bk S1 w1 ds1 => ds1 <+: Φ.fin ∧ ∀ (n' : Nat) (s₀' s' : Shared) (σ' : L2.St) (H' : Hp) (F' : FH), n' + ds1.length = sizeLine → GSt Φ g B ip s₀' s' ds1 σ' H' F' S1 w1 → k .brk n' s₀' s'
  | .ct S1 w1 ds1 => ds1 <+: Φ.fin ∧ ∀ (n' : Nat) (s₀' s' : Shared) (σ' : L2.St) (H' : Hp) (F' : FH), n' + ds1.length = sizeLine → GSt Φ g B ip s₀' s' ds1 σ' H' F' S1 w1 → k .cont n' s₀' s'
  | .bad => False
/-- what is out stays out -/
def Mono (m : SG) : Prop := ∀ ds S w, match m ds S w with
  | .nx _ _ ds1 => ds <+: ds1
  | .bk _ _ ds1 => ds <+: ds1
  | .ct _ _ ds1 => ds <+: ds1
  | .bad => True
theorem PostF.pre {Φ : GP} {g : G} {B : FH} {ip : List (Addr × Obj)} {k : Flow → Nat → Shared → Shared → Prop} {m : SG} {ds : List D} {S : SL} {w : Bx} (h : PostF Φ g B ip k (m ds S w)) (hm : Mono m) : ds <+: Φ.fin := by
  have := hm ds S w
  cases q : m ds S w with
  | bad => rw [q] at h; exact h.elim
  | _ => rw [q] at h this; exact this.trans h.1
theorem mono_pl (m : SM) : Mono (gPl m) := fun ds S w => by
  unfold gPl
  cases m S w <;> first | exact List.prefix_refl _ | trivial
theorem mono_nil : Mono gNil := fun ds S w => List.prefix_refl _
theorem mono_sq {m k : SG} (h1 : Mono m) (h2 : Mono k) : Mono (gSq m k) := fun ds S w => by
  unfold gSq
  have a := h1 ds S w
  cases q : m ds S w with
  | nx S1 w1 ds1 =>
    rw [q] at a
    have b := h2 ds1 S1 w1
    simp only
    cases q2 : k ds1 S1 w1 with
    | bad => trivial
    | _ => rw [q2] at b; exact a.trans b
  | bk S1 w1 ds1 => rw [q] at a; exact a
  | ct S1 w1 ds1 => rw [q] at a; exact a
  | bad => trivial
theorem mono_yield (f : EM) : Mono (gYield f) := fun ds S w => by
  unfold gYield
  by_cases h : ds.length < sizeN
  · rw [if_pos h]
    cases f S w with
    | ok d w1 => exact List.prefix_append _ _
    | _ => trivial
  · rw [if_neg h]; trivial
theorem mono_wh {tm : TM} {m : SG} (hm : Mono m) : ∀ n : Nat, Mono (whLoopG tm m n)
  | 0 => fun ds S w => trivial
  | n + 1 => fun ds S w => by
    unfold whLoopG
    cases tm S w with
    | ok b w1 =>
      cases b with
      | false => exact List.prefix_refl _
      | true =>
        have a := hm ds S w1
        simp only [if_true]
        cases q : m ds S w1 with
        | nx S2 w2 ds2 =>
          rw [q] at a
          have b := mono_wh (tm := tm) hm n ds2 S2 w2
          simp only
          cases q2 : whLoopG tm m n ds2 S2 w2 with
          | bad => trivial
          | _ => rw [q2] at b; exact a.trans b
        | ct S2 w2 ds2 =>
          rw [q] at a
          have b := mono_wh (tm := tm) hm n ds2 S2 w2
          simp only
          cases q2 : whLoopG tm m n ds2 S2 w2 with
          | bad => trivial
          | _ => rw [q2] at b; exact a.trans b
        | bk S2 w2 ds2 => rw [q] at a; exact a
        | bad => trivial
    | _ => trivial
theorem mono_gWhile {n : SL → Nat} {tm : TM} {m : SG} (hm : Mono m) : Mono (gWhile n tm m) := fun ds S w => mono_wh hm (n S) ds S w
structure FGS (Φ : GP) (g : G) (st : Stmt) (m : SG) : Prop where
  run : ∀ (A : Around) (R : GenEnd) (ip : List (Addr × Obj)) (n : Nat) (s₀ s : Shared) (c : Code) (fs : List Frame) (K : Flow → Sem PySem.Fin) (J : Value → Sem PySem.Fin) (gd : Bool → Bool) (lv : List Value → List Value)
    (ds : List D) (σ : L2.St) (H : Hp) (F B : FH) (S : SL) (w : Bx), GCF Φ ip A c fs gd → n + ds.length = sizeLine → GSt Φ g B ip s₀ s ds σ H F S w →
    PostF Φ g B ip (fun fl n' s₀' s' => Seg (model Φ.P Φ.w) A R (GYF Φ g) n' s₀' c (K fl) fs s') (m ds S w) →
    Seg (model Φ.P Φ.w) A R (GYF Φ g) n s₀ c ((exec st Φ.env).wrap K J gd lv) fs s
  mono : Mono m
structure FGSs (Φ : GP) (g : G) (st : List Stmt) (m : SG) : Prop where
  run : ∀ (A : Around) (R : GenEnd) (ip : List (Addr × Obj)) (n : Nat) (s₀ s : Shared) (c : Code) (fs : List Frame) (K : Flow → Sem PySem.Fin) (J : Value → Sem PySem.Fin) (gd : Bool → Bool) (lv : List Value → List Value)
    (ds : List D) (σ : L2.St) (H : Hp) (F B : FH) (S : SL) (w : Bx), GCF Φ ip A c fs gd → n + ds.length = sizeLine → GSt Φ g B ip s₀ s ds σ H F S w →
    PostF Φ g B ip (fun fl n' s₀' s' => Seg (model Φ.P Φ.w) A R (GYF Φ g) n' s₀' c (K fl) fs s') (m ds S w) →
    Seg (model Φ.P Φ.w) A R (GYF Φ g) n s₀ c ((execs st Φ.env).wrap K J gd lv) fs s
  mono : Mono m
section
variable {Φ : GP} {g : G} {e tg iter : Expr} {pos yp : Pos} {st : Stmt} {sts body : List Stmt} {m : SM} {mg mg2 : SG} {f : EM} {fi : AM} {gm : GM} {ns : List Nat} {tm : TM}
theorem GAt.ext {B : FH} {ip : List (Addr × Obj)} {s₀ s s' : Shared} {ds : List D} {σ : L2.St} {H H' : Hp} {F F' : FH} {S : SL} {w w' : Bx} {h0 : Heap} {H0 : Hp} {F0 : FH} {acc : Array Value} {c : Nat}
    (G : GAt Φ g B ip s₀ s ds σ H F S w h0 H0 F0 acc c) (I : Inv (Φ.X h0 H0) ((Φ.S, lstObj acc c) :: ip) σ H' s') (x : Ext g F H F' H' w') : GAt Φ g B ip s₀ s' ds σ H' F' S w' h0 H0 F0 acc c :=
  ⟨I, G.rel.ext' x, G.no, G.sz, G.get, G.good⟩
/-- an assignment of a value -/
theorem fgs_set {i : Nat} (h : ∀ h0 H0 F0, DS (Φ.X h0 H0) g (kE E0) F0 H0 st (sSet i f)) : FGS Φ g st (gPl (sSet i f)) := by
  refine ⟨fun A R ip n s₀ s c fs K J gd lv ds σ H F B S w gc hn G hpost => ?_, mono_pl _⟩
  obtain ⟨h0, H0, F0, acc, cc, G⟩ := G
  obtain ⟨t, p, q⟩ := (h h0 H0 F0).run
  unfold gPl at hpost
  cases hf : f S w with
  | ok d w1 =>
    have hm : sSet i f S w = .nx (S.set i (some (.dat d))) w1 := by unfold sSet; rw [hf]; rfl
    rw [hm] at hpost
    refine seg_wrap ?_
    rw [gc.over]
    refine wpAny_mono (p.run _ s σ H { nx := fun σ' H' => ∃ F', RelS g F0 H0 F F' w1 (S.set i (some (.dat d))) σ' H', rt := fun _ _ => False } G.inv (q _ σ H F S w F { G.rel with fl := FSame.refl F } (by rw [hm]; exact fun σ' H' F' R' => ⟨F', R'⟩))) (fun fl s' hs => ?_) fun x s' hx => hx.elim
    cases fl with
    | next =>
      obtain ⟨σ', H', I', F', R'⟩ := hs
      exact hpost.2 n s₀ s' σ' H' F' hn ⟨h0, H0, F0, acc, cc, I', { R' with fl := G.rel.fl.trans R'.fl }, G.no.set i d, G.sz, G.get, G.good⟩
    | brk => obtain ⟨_, _, _, z⟩ := hs; exact z.elim
    | cont => obtain ⟨_, _, _, z⟩ := hs; exact z.elim
    | ret u => obtain ⟨_, _, _, _, _, z⟩ := hs; exact z.elim
  | err c2 l w1 =>
    have hm : sSet i f S w = .err S c2 l w1 := by unfold sSet; rw [hf]; rfl
    rw [hm] at hpost; exact hpost.elim
  | bad =>
    have hm : sSet i f S w = .bad := by unfold sSet; rw [hf]; rfl
    rw [hm] at hpost; exact hpost.elim
theorem fgss_nil : FGSs Φ g [] gNil :=
  ⟨fun A R ip n s₀ s c fs K J gd lv ds σ H F B S w gc hn G hpost => seg_execs_nil (hpost.2 n s₀ s σ H F hn G), mono_nil⟩
theorem fgss_cons (h1 : FGS Φ g st mg) (h2 : FGSs Φ g sts mg2) : FGSs Φ g (st :: sts) (gSq mg mg2) := by
  refine ⟨fun A R ip n s₀ s c fs K J gd lv ds σ H F B S w gc hn G hpost => ?_, mono_sq h1.mono h2.mono⟩
  refine seg_execs_cons (h1.run A R ip n s₀ s c fs _ J gd lv ds σ H F B S w gc hn G ?_)
  unfold gSq at hpost
  cases hm : mg ds S w with
  | nx S1 w1 ds1 => rw [hm] at hpost; exact ⟨hpost.pre h2.mono, fun n' s₀' s' σ' H' F' hn' G' => h2.run A R ip n' s₀' s' c fs K J gd lv ds1 σ' H' F' B S1 w1 gc hn' G' hpost⟩
  | bk S1 w1 ds1 => rw [hm] at hpost; exact hpost
  | ct S1 w1 ds1 => rw [hm] at hpost; exact hpost
  | bad => rw [hm] at hpost; exact hpost.elim
theorem fgs_yield (he : ∀ h0 H0, DE (Φ.X h0 H0) g (kE E0) e f) (hco : Φ.env.scope.isCoroutine = false := by rfl) (hi : interactive Φ.env = false := by rfl) : FGS Φ g (.Expr (.Yield (some e) yp) pos) (gYield f) := by
  refine ⟨fun A R ip n s₀ s c fs K J gd lv ds σ H F B S w gc hn G hpost => ?_, mono_yield f⟩
  obtain ⟨h0, H0, F0, acc, cc, G⟩ := G
  obtain ⟨t, p, q⟩ := (he h0 H0).run
  unfold gYield at hpost
  by_cases hl : ds.length < sizeN
  · rw [if_pos hl] at hpost
    have hl2 : ds.length < sizeLine := hl
    obtain ⟨n, rfl⟩ : ∃ m, n = m + 1 := ⟨n - 1, by omega⟩
    cases hf : f S w with
    | ok d w1 =>
      rw [hf] at hpost
      refine seg_Expr_Yield gc.split gc.gd gc.guard ?_ hco hi
      rw [gc.over]
      refine wpAny_mono (p.run _ s σ H (fun x H1 => ∃ F1, Ext g F H F1 H1 w1 ∧ DR g F1 x d) G.inv (q σ H _ F S w G.rel.rel (by rw [hf]; exact fun v H' F' x rv => ⟨F', x, rv⟩))) (fun v s' hv => ?_) fun x s' hx => hx.elim
      obtain ⟨x, H1, I1, rv, F1, xt, dx⟩ := hv
      intro kap hk
      have G1 := G.ext I1 xt
      refine ⟨x, ds, d, ip, σ, H1, F1, B, S, w1, hn, rv, gc.ip, ⟨h0, H0, F0, acc, cc, G1⟩, dx, hpost.1, fun s'' F'' H'' xe wk => hk .none s'' ?_⟩
      obtain ⟨h0', acc', c', I', sz', get', good'⟩ := wk
      refine hpost.2 n s'' s'' σ H'' F'' ?_ ⟨h0', H'', F'', acc', c', I', ⟨(G1.rel.ext' xe).rel, Ext.refl xe.sub xe.bx, (G1.rel.ext' xe).fl, fun i ds p h _ => absurd h (G.no i ds)⟩, G.no, sz', get', good'⟩
      rw [List.length_append, List.length_singleton]; omega
    | err c fs w1 => rw [hf] at hpost; exact hpost.elim
    | bad => rw [hf] at hpost; exact hpost.elim
  · rw [if_neg hl] at hpost; exact hpost.elim
theorem gcf_loop {ip : List (Addr × Obj)} {A : Around} {c c' : Code} {fs : List Frame} {gd : Bool → Bool} {k : Result → Sem PySem.Fin} {l kp : List Value} {p : Pos} (gc : GCF Φ ip A c fs gd) (hw : c'.weight = 0) (hu : c'.cUnits = 0) :
    GCF Φ ip A c' (.ret k none (gd false) l c p kp :: fs) id where
  ip := gc.ip
  over := (over_loop hw hu).trans gc.over
  split := by
    show (splitAtGen fs).map _ = none
    rw [gc.split]; rfl
  guard := by
    show (gd false || fs.any Frame.guarded) = false
    rw [gc.gd, gc.guard]; rfl
  gd := rfl
theorem fgs_while (nn : SL → Nat) (hc : ∀ h0 H0, DT (Φ.X h0 H0) g (kE E0) e tm) (hb : FGSs Φ g body mg) : FGS Φ g (.While e body [] pos) (gWhile nn tm mg) := by
  refine ⟨fun A R ip n s₀ s c fs K J gd lv ds σ H F B S w gc hn G hpost => ?_, mono_gWhile hb.mono⟩
  refine seg_While fun p => ?_
  have gl := fun (kk : Result → Sem PySem.Fin) => gcf_loop (k := kk) (c' := .whileLoop e body [] Φ.env) (l := lv []) (kp := []) (p := p) gc rfl rfl
  unfold gWhile at hpost
  generalize nn S = k at hpost
  induction k generalizing n s₀ s ds σ H F S w with
  | zero => exact hpost.elim
  | succ k ih =>
    unfold whLoopG at hpost
    obtain ⟨h0, H0, F0, acc, cc, G⟩ := G
    obtain ⟨t, pt, q⟩ := (hc h0 H0).run
    refine seg_whileLoop ?_
    rw [(gl _).over]
    cases ht : tm S w with
    | err c fs w1 => rw [ht] at hpost; exact hpost.elim
    | bad => rw [ht] at hpost; exact hpost.elim
    | ok b w1 =>
      rw [ht] at hpost
      refine wpAny_mono (pt.run _ s σ H (fun b' H1 => b' = b ∧ ∃ F1, Ext g F H F1 H1 w1) G.inv (q σ H _ F S w G.rel.rel (by rw [ht]; exact fun H' F' x => ⟨rfl, F', x⟩))) (fun b' s' hb' => ?_) fun x s' hx => hx.elim
      obtain ⟨H1, I1, rfl, F1, xt⟩ := hb'
      have G1 := G.ext I1 xt
      cases b' with
      | false =>
        rw [if_neg Bool.false_ne_true]
        simp only [Bool.false_eq_true, if_false] at hpost
        refine seg_execs_nil ?_
        exact seg_leaf (.ok .next) (hpost.2 n s₀ s' σ H1 F1 hn ⟨h0, H0, F0, acc, cc, G1⟩)
      | true =>
        rw [if_pos rfl]
        simp only [if_true] at hpost
        refine hb.run A R ip n s₀ s' _ _ _ _ id id ds σ H1 F1 B S w1 (gl _) hn ⟨h0, H0, F0, acc, cc, G1⟩ ?_
        cases hbd : mg ds S w1 with
        | nx S2 w2 ds2 =>
          rw [hbd] at hpost
          exact ⟨hpost.pre (mono_wh hb.mono k), fun n' s₀' s3 σ' H' F' hn' G' => seg_again rfl (ih n' s₀' s3 ds2 σ' H' F' S2 w2 hn' G' hpost)⟩
        | bk S2 w2 ds2 =>
          rw [hbd] at hpost
          exact ⟨hpost.1, fun n' s₀' s3 σ' H' F' hn' G' => seg_leaf (.ok .next) (hpost.2 n' s₀' s3 σ' H' F' hn' G')⟩
        | ct S2 w2 ds2 =>
          rw [hbd] at hpost
          exact ⟨hpost.pre (mono_wh hb.mono k), fun n' s₀' s3 σ' H' F' hn' G' => seg_again rfl (ih n' s₀' s3 ds2 σ' H' F' S2 w2 hn' G' hpost)⟩
        | bad => rw [hbd] at hpost; exact hpost.elim
end
end Y
namespace Y
open PySem PySem.Spec PyProof.Rows L2 GenW
/-- all that the loop needs of the generator's own code: its call stands here -/
abbrev gpOf (P : Program) (w : World) (K : PySem.W.Frag) (mg : Str → Option Value) (base : Heap) (N : List Str) (qual : Str) (scope : Scope) (f : Addr) (cd : Value) (A : Around) (outer : List Env) (n : Nat) (sc : Shared) (S : Addr) (good : Shared → Hp → FH → List D → Prop) (own : Addr × Obj) (fin : List D) : GP :=
  ⟨P, w, K, mg, base, N, qual, scope, f, cd, A, outer, n, sc, S, good, own, fin⟩
/-- the end: all is out -/
def FinF (Φ : GP) (g : G) (es : List D) (w1 : Bx) : Nat → Shared → Shared → Prop := fun n s₀ s => ∃ (B : FH) (ip : List (Addr × Obj)) (σ : L2.St) (H : Hp) (F : FH) (S : SL), n + es.length = sizeLine ∧ GSt Φ g B ip s₀ s es σ H F S w1
def RF (Φ : GP) (g : G) (es : List D) (w1 : Bx) : GenEnd := fun n s₀ r s => ((r = .ok (.ret .none) ∨ r = .ok .next) ∧ FinF Φ g es w1 n s₀ s) ∨ ∃ e, r = .error e ∧ False
/-- a generator that has not begun -/
def GMadeF (P : Program) (w : World) (K : PySem.W.Frag) (mg : Str → Option Value) (base : Heap) (k : Nat) (g : G) (outer : List Env) (H : Hp) (F : FH) (s : Shared) (es : List D) (w1 : Bx) (u : Value) (s' : Shared) : Prop :=
  ∃ (N : List Str) (qual : Str) (scope : Scope) (f : Addr) (cd : Value) (gn : Nat) (c : Code) (own : Addr × Obj) (σ : L2.St),
    u = .ref own.1 ∧ (∃ nm qn, own.2.cls = .type "generator" ∧ own.2.data = .fields #[.int gn 0, nm, qn] ∧ own.2.slots = #[]) ∧ s.heap.objs.size ≤ own.1 ∧ s'.gens[gn]? = some (.fresh c) ∧ s'.os = s.os ∧ AllBare s'.gens ∧ s'.heap.NoLimit ∧ (∀ b o, s.heap.get? b = some o → s'.heap.get? b = some o) ∧
    (envOfC qual scope s.heap.objs.size f cd).cells = [] ∧
    ∀ (A : Around) (S : Addr) (good : Shared → Hp → FH → List D → Prop), Room k A → A.frames = some outer →
      Inv ((gpOf P w K mg base N qual scope f cd A outer s.heap.objs.size s S good own es).X s.heap H) [] σ H s' ∧
      ∀ s2, WK (gpOf P w K mg base N qual scope f cd A outer s.heap.objs.size s S good own es) [] [] σ H F s2 →
        Seg (model P w) A (RF (gpOf P w K mg base N qual scope f cd A outer s.heap.objs.size s S good own es) g es w1) (GYF (gpOf P w K mg base N qual scope f cd A outer s.heap.objs.size s S good own es) g) sizeLine s2 c ((model P w).den c) [] s2
structure GFnF (P : Program) (w : World) (K : PySem.W.Frag) (mg : Str → Option Value) (base : Heap) (cls : CT) (k : Nat) (f : Addr) (fd : FuncData) (ps : List Str) (mo : List D → Bx → R (List D)) : Prop where
  run : ∀ (A : Around) (outer : List Env) (s : Shared) (H : Hp) (args : Args) (us : List Value) (vs : List V) (bx : BQ) (F0 : FH) (ds : List D) (w0 : Bx) (es : List D) (w1 : Bx), Room k A → Env0 P w K mg base A outer s H → BindsTo s fd args (ps.zip us) → Vals vs us → vs.length = ps.length →
    Same F0 H → BxOk ⟨K, cls, bx⟩ F0 w0 H → DRs ⟨K, cls, bx⟩ F0 vs ds → mo ds w0 = .ok es w1 →
    codeAny (model P w) A (.call (.ref f) args) (fun r s' => match r with | .ok (.ret u) => GMadeF P w K mg base k ⟨K, cls, bx⟩ outer H F0 s es w1 u s' | _ => False) s
/-- from the def's own context to the loop's -/
theorem inv_gx {P : Program} {w : World} {K : PySem.W.Frag} {mg : Str → Option Value} {base : Heap} {N : List Str} {qual : Str} {scope : Scope} {f : Addr} {cd : Value} {A : Around} {outer : List Env} {s s1 : Shared} {H H' : Hp} {E : XK} {σ : L2.St} {S : Addr} {good : Shared → Hp → FH → List D → Prop} {own : Addr × Obj} {es : List D}
    (I : Inv (gcxOf P w K mg base N qual scope f cd A outer s H E []) [] σ H' s1)
    (h : s1.heap.get? own.1 = some own.2 ∧ H' own.1 = none ∧ own.1 ≠ (envOfC qual scope s.heap.objs.size f cd).locals ∧ own.1 ∉ frs outer ∧ ∀ v, own.2.data ≠ .cell v) :
    Inv ((gpOf P w K mg base N qual scope f cd A outer s.heap.objs.size s S good own es).X s.heap H) [] σ H' s1 :=
  ⟨⟨I.ok.mod, I.ok.kind, I.ok.glob, I.ok.blt, I.ok.above, I.ok.inj, I.ok.has, I.ok.cab, I.ok.hd, I.ok.frames, I.ok.stk, I.ok.exf, I.ok.bs, I.ok.bsz, I.ok.noex, I.ok.exfs, I.ok.funs, I.ok.frf⟩, I.os, I.bare, I.base, I.loc, I.cell, I.free, I.freeC,
    fun p hp => by
      have e : p = own := by simpa using hp
      rw [e]; exact h, I.hok, I.len⟩
theorem gfnF_of {P : Program} {w : World} {K : PySem.W.Frag} {mg : Str → Option Value} {base : Heap} {cls : CT} {x qual : Str} {st : Stmt} {f : Addr} {fd : FuncData} {N ps : List Str} {k : Nat} {body : SG} (F : Fun K x qual st f fd) (S : GScope N ps (defScope st)) (hnc : ∀ n, cellsFrom n (defScope st).names [] = [])
    (hbody : ∀ (cdv : Value) (A : Around) (outer : List Env) (n : Nat) (sc : Shared) (Sx : Addr) (good : Shared → Hp → FH → List D → Prop) (own : Addr × Obj) (fin : List D) (bx : BQ), Room k (A.deeper (envOfC qual (defScope st) n f cdv)) →
      FGSs (gpOf P w K mg base N qual (defScope st) f cdv A outer n sc Sx good own fin) ⟨K, cls, bx⟩ (defBody st) body) :
    GFnF P w K mg base cls (k + 1) f fd ps (runG ps.length N.length body) := by
  obtain ⟨oc, oc2, kV, dc, pm, an, cv, ct, sl, rfl, lk, hcd⟩ := F.ex
  refine ⟨fun A outer s H args us vs bx F0 ds w0 es w1 hr e0 hb r hl s1 b1 rd hmo => ?_⟩
  have KX : K.In s.heap := e0.mod.kin.keeps fun b o e => (e0.bs b o e).1
  have lim : s.heap.NoLimit := e0.mod.nolimit.keeps fun b o e => (e0.bs b o e).1
  have hkind : ∀ y ∈ ps.zip us, (defScope st).names.lookup y.1 = some .local ∨ ((defScope st).names.lookup y.1 = some .cell ∧ ((cellsFrom (s.heap.objs.size + 1) (defScope st).names []).lookup y.1).isSome = true) := fun ⟨n, v⟩ hy => by
    rcases S.par n (List.of_mem_zip hy).1 with q | q
    · exact .inl q
    · exact .inr ⟨q, PySem.W.cellsFrom_some _ _ _ (.inl q)⟩
  refine codeAny_call_generator hr.depth (KX _ _ lk) rfl S.co S.gen rfl (PySem.W.codeRec_of KX hcd) (hb _ _ _ _ ?_)
  refine wpAny_newFunctionEnv_cells S.kind hkind fun env he t1 x => ?_
  subst he
  have lim1 : t1.heap.NoLimit := lim.keeps x.toInCall.keep
  refine ⟨lim1, ?_⟩
  obtain ⟨h1, tk, es1, hk1⟩ := x.done
  have os1 : t1.os = s.os := by rw [es1]
  have gen1 : t1.gens = s.gens := by rw [es1]
  have lt1 : s.heap.objs.size < t1.heap.objs.size := x.toInCall.ns.lt
  have sz1 : s.heap.objs.size ≤ t1.heap.objs.size := Nat.le_of_lt lt1
  have kp1 : ∀ b o, s.heap.get? b = some o → t1.heap.get? b = some o := x.toInCall.keep
  have main : ∀ (go : Obj) (nm qn : Value) (tk2 : Nat), go.cls = .type "generator" → go.data = .fields #[.int t1.gens.size 0, nm, qn] → go.slots = #[] → (∀ h : Heap, (h.push go).get? h.objs.size = some go) →
      GMadeF P w K mg base (k + 1) ⟨K, cls, bx⟩ outer H F0 s es w1 (.ref t1.heap.objs.size) { t1 with gens := t1.gens.push (.fresh (.func (defBody st) (envOfC qual (defScope st) s.heap.objs.size f cv))), toks := tk2, heap := t1.heap.push go } := by
    intro go nm qn tk2 hgc hgd0 hgs hgp
    have hpushed : (t1.heap.push go).get? t1.heap.objs.size = some go := hgp _
    have kpp : ∀ b o, t1.heap.get? b = some o → (t1.heap.push go).get? b = some o := fun b o e => Heap.get?_push_of_some _ e
    refine ⟨N, qual, defScope st, f, cv, t1.gens.size, _, (t1.heap.objs.size, go), start N vs, rfl, ⟨nm, qn, hgc, hgd0, hgs⟩, sz1, Array.getElem?_push_size .., os1, ?_, lim1.keeps kpp, fun b o e => kpp b o (kp1 b o e), hnc _, fun Aw Sx good hrw hfr => ?_⟩
    · exact AllBare.push (by rw [gen1]; exact e0.bare) rfl
    have e0w : Env0 P w K mg base Aw outer s H := ⟨hfr, e0.mod, e0.bs, e0.bsz, e0.funs, e0.frf, e0.hok, e0.bare⟩
    have I1 : Inv (gcxOf P w K mg base N qual (defScope st) f cv Aw outer s H E0 []) [] (start N vs) H t1 := inv_startG S hrw.hd e0w hl r x
    have I2 : Inv (gcxOf P w K mg base N qual (defScope st) f cv Aw outer s H E0 []) [] (start N vs) H { t1 with gens := t1.gens.push (.fresh (.func (defBody st) (envOfC qual (defScope st) s.heap.objs.size f cv))), toks := tk2, heap := t1.heap.push go } :=
      I1.call' (ch := []) rfl (Un.kept kpp) (I1.hok.kept kpp) (AllBare.push (by rw [gen1]; exact e0.bare) rfl) fun b z => by simp at z
    refine ⟨inv_gx I2 ⟨hpushed, I1.hok.fresh (Nat.le_refl _), Nat.ne_of_gt lt1, I1.nofs (Nat.le_refl _), fun v q => by
      have q : go.data = .cell v := q
      rw [hgd0] at q; cases q⟩, fun s2 wk => ?_⟩
    obtain ⟨h0, acc, c, I, sz, get, gd⟩ := wk
    refine seg_func ?_
    have hb := hbody cv Aw outer s.heap.objs.size s Sx good (t1.heap.objs.size, go) es bx (hrw.deeper _)
    have hmo : (if ds.length = ps.length then (match body [] (startS N.length ds) w0 with | .nx _ w1 es => .ok es w1 | _ => .bad) else .bad : R (List D)) = .ok es w1 := hmo
    rw [if_pos (by rw [← rd.length]; exact hl)] at hmo
    refine hb.run Aw _ [] sizeLine s2 s2 _ [] _ _ id id [] (start N vs) H F0 F0 (startS N.length ds) w0 ⟨fun p hp => (by simp at hp), over_func, rfl, rfl, rfl⟩ (Nat.add_zero _) ⟨h0, H, F0, acc, c, I, rel_start s1 b1 rd, fun i ds' e => ?_, sz, get, gd⟩ ?_
    · unfold startS at e
      rw [List.getElem?_append] at e
      split at e
      · rw [List.getElem?_map] at e
        cases q : ds[i]? with
        | none => rw [q] at e; cases e
        | some d => rw [q] at e; cases e
      · rw [List.getElem?_replicate] at e
        split at e <;> cases e
    · cases hbd : body [] (startS N.length ds) w0 with
      | nx S1 w2 es2 =>
        simp only [hbd] at hmo
        cases hmo
        exact ⟨List.prefix_refl _, fun n' s₀' s' σ' H' F' hn' G' => seg_end (.ok (.ret .none)) (.inl ⟨.inl rfl, F0, [], σ', H', F', S1, hn', G'⟩)⟩
      | bk S1 w1 es => simp only [hbd] at hmo; cases hmo
      | ct S1 w1 es => simp only [hbd] at hmo; cases hmo
      | bad => simp only [hbd] at hmo; cases hmo
  exact main _ _ _ _ rfl rfl rfl fun h => Heap.get?_push_size _ rfl
end Y
namespace Y
open PySem PySem.Spec PyProof.Rows L2 GenW
section
variable {X : Cx} {pins : List (Addr × Obj)} {σ σ' : L2.St} {H : Hp} {s : Shared}
/-- an untracked object of ours is another one -/
theorem inv_turn {a : Addr} {h' : Heap} {tk : Nat} (I : Inv X pins σ H s) (hs : Heap.SameBut a s.heap h') (ha : H a = none) (low : X.s_0.heap.objs.size ≤ a) (hpin : ∀ p ∈ X.pn ++ pins, p.1 ≠ a)
    (hloc : ∃ m, h'.Ns X.env.locals m ∧ ∀ (i : Nat) (x : Str) (v : V), X.N[i]? = some x → σ'[i]? = some (some v) → Vis X.env.scope x → ∃ u, RelV v u ∧ Look X.env h' m x u)
    (hcell : ∀ x c, X.env.cells.lookup x = some c → ∃ v, h'.IsCell c v) (hlen : σ'.length = X.N.length) : Inv X pins σ' H { s with heap := h', toks := tk } := by
  have na : ∀ b o, X.s_0.heap.get? b = some o → b ≠ a := fun b o e => Nat.ne_of_lt (Nat.lt_of_lt_of_le (Heap.lt_size e) low)
  refine ⟨I.ok, I.os, I.bare, ⟨fun b o e n hb hx => (hs.2 b (na b o e)).trans (I.base.keep b o e n hb hx), fun b o e n hb hx => ?_, I.base.free, fun b o e hx => ?_, I.base.tups, I.base.frzs, I.base.tbls⟩, hloc, hcell, I.free, I.freeC, fun p hp => ?_, fun b o e => ?_, hlen⟩
  · obtain ⟨sl, e1⟩ := I.base.slot b o e n hb hx
    exact ⟨sl, (hs.2 b (na b o e)).trans e1⟩
  · obtain ⟨o', e1⟩ := I.base.there b o e hx
    exact ⟨o', (hs.2 b (na b o e)).trans e1⟩
  · obtain ⟨e, r⟩ := I.pin p hp
    exact ⟨(hs.2 p.1 (hpin p hp)).trans e, r⟩
  · refine (I.hok b o e).stay (fun c u hc q => (hs.2 c ?_).trans q) (fun _ q => q) fun _ _ q => q
    rintro rfl
    rcases hc with rfl | hc
    · rw [ha] at e; cases e
    · rw [ha] at hc; cases hc
/-- what a store into a name of the frame leaves alone -/
structure Ex (X : Cx) (s s' : Shared) : Prop where
  os : s'.os = s.os
  gens : s'.gens = s.gens
  keep : ∀ b o, b ≠ X.env.locals → (∀ x c, X.env.cells.lookup x = some c → c ≠ b) → s.heap.get? b = some o → s'.heap.get? b = some o
  there : ∀ b o, s.heap.get? b = some o → ∃ o', s'.heap.get? b = some o'
theorem Ex.same {a : Addr} {h' : Heap} {tk : Nat} (hs : Heap.SameBut a s.heap h') (hb : a = X.env.locals ∨ ∃ x, X.env.cells.lookup x = some a) (ht : ∃ o, h'.get? a = some o) : Ex X s { s with heap := h', toks := tk } := by
  refine ⟨rfl, rfl, fun b o h1 h2 e => (hs.2 b ?_).trans e, fun b o e => ?_⟩
  · rintro rfl
    rcases hb with z | ⟨x, z⟩
    · exact h1 z
    · exact h2 x _ z rfl
  · by_cases hba : b = a
    · subst hba; exact ht
    · exact ⟨o, (hs.2 b hba).trans e⟩
theorem store_x {M : Model} {A : Around} {E : Value → Shared → Prop} {i : Nat} {x : Str} {v : V} {u : Value} {Q : Unit → Shared → Prop} (I : Inv X pins σ H s) (hN : X.N.Nodup) (hi : X.N[i]? = some x) (hx : Loc X.env.scope x) (r : RelV v u)
    (h : ∀ s', Inv X pins (σ.set i (some v)) H s' → Ex X s s' → Q () s') (hf : X.fn x = true ∨ X.env.scope.names.lookup x = some .local) : wpAny M A (storeName X.env x u) Q E s := by
  obtain ⟨m, hn, hl⟩ := id I.loc
  have hcls : (X.env.scope.kind == .class || (X.env.scope.kind == .module && X.env.locals != X.env.globals)) = false := by rw [I.ok.kind]; rfl
  have hiσ : i < σ.length := by rw [I.len]; exact (List.getElem?_eq_some_iff.mp hi).1
  have hlen : (σ.set i (some v)).length = X.N.length := by rw [List.length_set]; exact I.len
  have cne := I.cne
  rcases hx with hk | hk
  · refine wpAny_storeName_local hk hn (fun h' hn' hs => ?_) hcls
    have hL : ∃ o, h'.get? X.env.locals = some o := let ⟨o, _, _, ho, _⟩ := hn'; ⟨o, ho⟩
    refine h _ (inv_turn I hs I.free I.ok.above (fun p hp => (I.pin p hp).2.2.1) ⟨_, hn', fun j y w e1 e2 e3 => ?_⟩ (fun y c e => ?_) hlen) (Ex.same hs (.inl rfl) hL)
    · by_cases hj : j = i
      · subst hj
        rw [hi] at e1; cases e1
        rw [List.getElem?_set_self hiσ] at e2
        cases e2
        exact ⟨u, r, .inl ⟨hk, if_pos rfl⟩⟩
      · rw [List.getElem?_set_ne (Ne.symm hj)] at e2
        obtain ⟨u', r', q⟩ := hl j y w e1 e2 e3
        refine ⟨u', r', ?_⟩
        rcases q with ⟨k, e⟩ | ⟨k, c, e, z⟩
        · have hne : y ≠ x := fun z => hj (nodup_ix hN e1 (by rw [z]; exact hi))
          exact .inl ⟨k, (if_neg hne).trans e⟩
        · exact .inr ⟨k, c, e, z.sameBut hs (cne y c e)⟩
    · obtain ⟨w, z⟩ := I.cell y c e
      exact ⟨w, z.sameBut hs (cne y c e)⟩
  · have hfn : X.fn x = true := by
      rcases hf with z | z
      · exact z
      · rw [z] at hk; cases hk
    obtain ⟨c, hc⟩ := I.ok.has x (.inl hk)
    obtain ⟨w', z⟩ := I.cell x c hc
    refine wpAny_storeName_cell I.ok.kind hk hc z (fun h' hc' hs => ?_)
    obtain ⟨oc, hoc, hocd⟩ := id z
    have hC : ∃ o, h'.get? c = some o := let ⟨o, ho, _⟩ := hc'; ⟨o, ho⟩
    refine h _ (inv_turn (tk := s.toks) I hs (I.freeC x c hc) (I.ok.cab x c hfn hc) (fun p hp q => ?_) ⟨m, hn.sameBut hs (Ne.symm (cne x c hc)), fun j y w e1 e2 e3 => ?_⟩ (fun y c' e => ?_) hlen) (Ex.same hs (.inr ⟨x, hc⟩) hC)
    · obtain ⟨e, _, _, _, d⟩ := I.pin p hp
      rw [q, hoc] at e
      have q' : oc = p.2 := Option.some.inj e
      exact d w' (by rw [← q']; exact hocd)
    · by_cases hj : j = i
      · subst hj
        rw [hi] at e1; cases e1
        rw [List.getElem?_set_self hiσ] at e2
        cases e2
        exact ⟨u, r, .inr ⟨.inl hk, c, hc, hc'⟩⟩
      · rw [List.getElem?_set_ne (Ne.symm hj)] at e2
        obtain ⟨u', r', q⟩ := hl j y w e1 e2 e3
        refine ⟨u', r', ?_⟩
        rcases q with q | ⟨k, c', e, z'⟩
        · exact .inl q
        · refine .inr ⟨k, c', e, z'.sameBut hs ?_⟩
          rintro rfl
          exact hj (nodup_ix hN e1 (I.ok.inj _ _ _ e hc ▸ hi))
    · by_cases hcc : c' = c
      · subst hcc; exact ⟨_, hc'⟩
      · obtain ⟨w2, z2⟩ := I.cell y c' e
        exact ⟨w2, z2.sameBut hs hcc⟩
end
structure PGx (X : Cx) (tg : Expr) (t : TG) : Prop where
  run : ∀ (pins : List (Addr × Obj)) (s : Shared) (σ : L2.St) (H : Hp) (v : V) (u : Value) (Q : L2.St → Hp → Prop), Inv X pins σ H s → RelV v u → t v σ H Q →
    wpAny (model X.prog X.w) X.A (assign tg X.env u) (fun _ s' => (∃ σ' H', Inv X pins σ' H' s' ∧ Q σ' H') ∧ Ex X s s') X.xe s
section
variable {X : Cx} {pos : Pos} {g : G} {e : Expr}
theorem pgx_name {i : Nat} {x : Str} (hN : X.N.Nodup) (hi : X.N[i]? = some x) (hx : Loc X.env.scope x) (hf : X.fn x = true ∨ X.env.scope.names.lookup x = some .local) : PGx X (.Name x pos) (gName i) := by
  refine ⟨fun pins s σ H v u Q I r h => ?_⟩
  exact wpAny_assign_Name (store_x I hN hi hx r (fun s' I' ex => ⟨⟨_, H, I', h⟩, ex⟩) hf)
structure DGx (X : Cx) (g : G) (tg : Expr) (ns : List Nat) (m : GM) : Prop where
  run : ∃ t, PGx X tg t ∧ ∀ v σ H Q F S w d S', Rel g F w S σ H → DR g F v d → m d S = some S' → (∀ σ', Rel g F w S' σ' H → (∀ vs, (∀ i ∈ ns, i ∈ vs) → L2.wipe σ' vs = L2.wipe σ vs) → Q σ' H) → t v σ H Q
  own : ∀ d S S' (i : Nat) ds, m d S = some S' → S'[i]? = some (some (.own ds)) → S[i]? = some (some (.own ds)) ∧ i ∉ ns
theorem DGx.dg {tg : Expr} {ns : List Nat} {m : GM} (h : DGx X g tg ns m) : DG X g tg ns m := by
  obtain ⟨t, p, r⟩ := h.run
  exact ⟨⟨t, ⟨fun pins s σ H v u Q I rv q => thn (p.run pins s σ H v u Q I rv q) fun _ _ x => x.1⟩, r⟩, h.own⟩
theorem dgx_name (i : Nat) {x : Str} (hN : X.N.Nodup) (hi : X.N[i]? = some x := by rfl) (hx : Loc X.env.scope x := by first | exact Or.inl rfl | exact Or.inr rfl) (hf : X.fn x = true ∨ X.env.scope.names.lookup x = some .local := by first | exact .inl rfl | exact .inr rfl) : DGx X g (.Name x pos) [i] (gSet i) := by
  refine ⟨⟨_, pgx_name hN hi hx hf, fun v σ H Q F S w d S' R r hm q => ?_⟩, fun d S S' j ds hm hj => ?_⟩
  · cases hm
    exact q _ (R.set i r) fun vs hv => wipe_set (hv i (List.mem_singleton.mpr rfl))
  · cases hm
    rw [List.getElem?_set] at hj
    by_cases e : i = j
    · rw [if_pos e] at hj; split at hj <;> cases hj
    · rw [if_neg e] at hj; exact ⟨hj, fun z => e (List.mem_singleton.mp z).symm⟩
end
structure Kx (s s' : Shared) : Prop where
  os : s'.os = s.os
  gens : s'.gens = s.gens
  le : s.heap.objs.size ≤ s'.heap.objs.size
  keep : ∀ b o, s.heap.get? b = some o → s'.heap.get? b = some o
theorem Kx.refl (s : Shared) : Kx s s := ⟨rfl, rfl, Nat.le_refl _, fun _ _ e => e⟩
/-- new in H' are objects that were not there -/
def Nw (s : Shared) (H H' : Hp) : Prop := (∀ b, H' b = none → H b = none) ∧ (∀ b o, H b = some o → H' b = some o) ∧ ∀ b, H b = none → H' b ≠ none → s.heap.objs.size ≤ b
structure PEx (X : Cx) (e : Expr) (t : TE) : Prop where
  run : ∀ (pins : List (Addr × Obj)) (s : Shared) (σ : L2.St) (H : Hp) (Q : VK), Inv X pins σ H s → t σ H Q → wpAny (model X.prog X.w) X.A (eval e X.env)
    (fun u s' => (∃ v H', Inv X pins σ H' s' ∧ RelV v u ∧ Q v H' ∧ Nw s H H') ∧ Kx s s') X.xe s
section
variable {X : Cx} {e : Expr} {es : List Expr} {te : TE} {t : TA} {pos : Pos} {g : G}
theorem Nw.refl (s : Shared) (H : Hp) : Nw s H H := ⟨fun _ e => e, fun _ _ e => e, fun b h1 h2 => absurd h1 h2⟩
theorem pex_var {i : Nat} {x : Str} {pos : Pos} (hN : X.N[i]? = some x) (hv : Vis X.env.scope x) (hd : (x == ("__debug__" : Str)) = false := by decide) (hcd : (x == ("__classdict__" : Str)) = false := by decide) : PEx X (.Name x pos) (tVar i) := by
  refine ⟨fun pins s σ H Q I h => ?_⟩
  obtain ⟨v, e, h⟩ := h
  obtain ⟨m, hn, hl⟩ := I.loc
  obtain ⟨u, r, l⟩ := hl i x v hN e hv
  have fin : (∃ v H', Inv X pins σ H' s ∧ RelV v u ∧ Q v H' ∧ Nw s H H') ∧ Kx s s := ⟨⟨v, H, I, r, h, Nw.refl s H⟩, Kx.refl s⟩
  rcases l with ⟨hk, hm⟩ | ⟨hk, c, hc, hcell⟩
  · exact wpAny_Name (wpAny_loadName_local I.ok.kind hk hn hm fin) hd
  · rcases hk with hk | hk
    · exact wpAny_Name (wpAny_loadName_cell I.ok.kind hk hc hcell fin) hd
    · exact wpAny_Name (wpAny_loadName_free I.ok.kind hk hc hcell fin hcd) hd
end
end Y
namespace Y
open PySem PySem.Spec PyProof.Rows L2 GenW
/-- all objects but the one at q are kept -/
structure KxS (q : Addr) (s s' : Shared) : Prop where
  os : s'.os = s.os
  gens : s'.gens = s.gens
  keep : ∀ b o, b ≠ q → s.heap.get? b = some o → s'.heap.get? b = some o
/-- L.append(a), step by step -/
theorem append_x {X : Cx} {pins : List (Addr × Obj)} {σ : L2.St} {H : Hp} {s : Shared} {a : Expr} {te : TE} {i : Nat} {x : Str} {q : Addr} {xs : List V} {px apos p pos : Pos} {Q : VK} (pe : PEx X a te) (I : Inv X pins σ H s) (hN : X.N[i]? = some x) (hv : Vis X.env.scope x) (hx : σ[i]? = some (some (.ref q))) (hq : H q = some (.lst xs)) (hz : xs.length < sizeLine) (ht : te σ H Q)
    (hd : (x == ("__debug__" : Str)) = false) (hcd : (x == ("__classdict__" : Str)) = false)
    (hbase : attributeBase (.Name x px) "append" X.env (eval (.Name x px) X.env) = eval (.Name x px) X.env)
    (hfew : ((backTo p (starEach [a] X.env)).all (fun x => !x.1) && (backToKw p (keywordEach [] X.env)).all (fun x => x.1.isSome)
      && decide ([a].length + ([] : List Keyword).length + (if ([] : List Keyword).isEmpty then 0 else 1) < 30)) = true)
    (hline : (apos.endLine == p.line) = true) (hst : starEach [a] X.env = (false, eval a X.env) :: starEach [] X.env) (hplain : (backTo p (starEach [] X.env)).any (·.1) = false)
    (hsw : swapsWith (.Call (.Attribute (.Name x px) "append" apos) [a] [] p) none pos.line X.env = pure false) :
    wpAny (model X.prog X.w) X.A (exec (.Expr (.Call (.Attribute (.Name x px) "append" apos) [a] [] p) pos) X.env)
      (fun f s' => f = .next ∧ (∃ v H1, Inv X pins σ (upd H1 q (.lst (xs ++ [v]))) s' ∧ Q v H1 ∧ Nw s H H1) ∧ KxS q s s') X.xe s := by
  refine wpAny_Expr_any ?_ I.quiet hsw
  refine wpAny_Call_method_late hbase hfew hline rfl (thn ((pex_var hN hv hd hcd).run pins s σ H (fun v H' => v = .ref q ∧ H' = H) I ⟨_, hx, rfl, rfl⟩) fun v s1 ⟨⟨y, H1, I1, r1, ⟨ey, eH⟩, _⟩, k1⟩ => ?_)
  subst ey eH
  obtain ⟨h1, h2⟩ := tyV_is (T := "list") I1 r1 (.inl ⟨rfl, xs, .inl (.inl hq)⟩)
  refine ⟨"list", "list.append", PySem.F.plainAttrs_list, PySem.F.slot_list_append, PySem.F.type_list_append, h1, h2, ?_⟩
  rw [hst]
  refine Calls.callWith_builtin (by show (false || (backTo p (starEach [] X.env)).any (·.1)) = false; rw [hplain] <;> rfl) (Calls.evalArgs_plain ?_)
  refine Calls.spliced_cons (thn (pe.run pins s1 σ H1 Q I1 ht) fun u s2 ⟨⟨w, H2, I2, r2, q2, nw⟩, k2⟩ => ?_)
  refine Calls.spliced_nil ?_
  have hq2 := nw.2.1 q _ hq
  obtain ⟨z, its, n, rr, hl, e⟩ := I2.lstM hq2
  cases r1
  refine call_meets F.slot_list_append ⟨_, e, rfl⟩ F.entry_list_append (F.args_list_append_2 _ _) (PySem.list_append q its.toArray n u (by rw [List.size_toArray]; omega)) ⟨e, ?_⟩
  have I3 := I2.lset (t' := s2.toks) (f := fun a => a.push u) (its' := its ++ [u]) hq2 e (by simp) (rr.append (.cons r2 .nil)) (by rw [List.length_append, List.length_singleton]; omega)
  show Flow.next = Flow.next ∧ _ ∧ _
  refine ⟨rfl, ⟨w, H2, I3, q2, nw.1, nw.2.1, fun b h3 h4 => Nat.le_trans k1.le (nw.2.2 b h3 h4)⟩, k2.os.trans k1.os, k2.gens.trans k1.gens, fun b o hb eb => ?_⟩
  exact (Heap.get?_update_other _ _ (Ne.symm hb)).trans (k2.keep b o (k1.keep b o eb))
/-- the objects that were there when n of them were there -/
def cutH (n : Nat) (h : Heap) : Heap := ⟨h.objs.extract 0 n, h.life⟩
theorem cut_size {n : Nat} {h : Heap} (l : n ≤ h.objs.size) : (cutH n h).objs.size = n := by
  show (h.objs.extract 0 n).size = n
  rw [Array.size_extract]; omega
theorem cut_get {n : Nat} {h : Heap} {b : Addr} (hb : b < n) : (cutH n h).get? b = h.get? b := by
  unfold Heap.get? cutH
  have e : (h.objs.extract 0 n)[b]? = h.objs[b]? := by
    rw [Array.getElem?_extract]
    simp only [Nat.zero_add, Nat.sub_zero]
    by_cases hl : b < h.objs.size
    · rw [if_pos (Nat.lt_min.mpr ⟨hb, hl⟩)]
    · rw [if_neg (fun z => hl (Nat.lt_min.mp z).2)]
      exact (Array.getElem?_eq_none (Nat.not_lt.mp hl)).symm
  rw [e]
theorem cut_sub {n : Nat} {h : Heap} (l : n ≤ h.objs.size) {b : Addr} {o : Obj} (e : (cutH n h).get? b = some o) : h.get? b = some o := by
  have hb := Heap.lt_size e
  rw [cut_size l] at hb
  rw [← cut_get hb]; exact e
theorem funs_cut {n : Nat} {h base : Heap} : ∀ {l : List Env}, h.FunFrames base l → (∀ b ∈ frs l, b < n) → (cutH n h).FunFrames base l
  | [], _, _ => trivial
  | env :: l, x, hl => by
    obtain ⟨hk, ⟨L, o, hf, hn, ho, hd⟩, hr⟩ := x
    have hL : L ∈ frs (env :: l) := by
      show L ∈ List.filterMap (·.frame) (env :: l)
      rw [List.filterMap_cons, hf]; exact List.mem_cons_self
    refine ⟨hk, ⟨L, o, hf, hn, (cut_get (hl L hL)).trans ho, hd⟩, funs_cut hr fun b hb => hl b ?_⟩
    show b ∈ List.filterMap (·.frame) (env :: l)
    rw [List.filterMap_cons, hf]; exact List.mem_cons_of_mem _ hb
/-- the generator, woken -/
theorem gen_wake {Φ : GP} {h0 : Heap} {H0 H H' : Hp} {σ : L2.St} {s s' : Shared} {ip : List (Addr × Obj)} {acc : Array Value} {c : Nat} {A' : Around} (J : Inv (Φ.X h0 H0) ip σ H s) (sz : h0.objs.size = Φ.n) (hnc : Φ.env.cells = []) (hos : s'.os = Φ.sc.os)
    (Vo : Addr → Prop) (hV : ∀ b, Vo b → b < Φ.n) (hVp : ∀ p ∈ Φ.own :: ip, ¬ Vo p.1) (keep : ∀ b o, ¬ Vo b → s.heap.get? b = some o → s'.heap.get? b = some o)
    (e0 : Env0 Φ.P Φ.w Φ.K Φ.mg Φ.base A' Φ.outer s' H') (old : ∀ b, H b = none → (∃ o, s.heap.get? b = some o) → H' b = none)
    (hS : s'.heap.get? Φ.S = some (lstObj acc c)) (hSn : H' Φ.S = none) (hSl : Φ.S < Φ.n) (hSf : Φ.S ∉ frs Φ.outer) :
    Inv (Φ.X (cutH Φ.n s'.heap) H') ((Φ.S, lstObj acc c) :: ip) σ H' s' ∧ (cutH Φ.n s'.heap).objs.size = Φ.n := by
  obtain ⟨m, hn, hl⟩ := id J.loc
  obtain ⟨oL, _, _, hoL, _⟩ := id hn
  have above : Φ.n ≤ Φ.env.locals := by rw [← sz]; exact J.ok.above
  have nV : ∀ b, Φ.n ≤ b → ¬ Vo b := fun b hb z => absurd (hV b z) (Nat.not_lt.mpr hb)
  have kL := keep _ _ (nV _ above) hoL
  have nle : Φ.n ≤ s'.heap.objs.size := Nat.le_trans above (Nat.le_of_lt (Heap.lt_size kL))
  have csz := cut_size (h := s'.heap) nle
  have frn : ∀ b ∈ frs Φ.outer, b < Φ.n := fun b hb => by
    obtain ⟨_, o, ho, _⟩ := J.ok.funs.mem hb
    rw [← sz]; exact Heap.lt_size ho
  have noc : ∀ x c, Φ.env.cells.lookup x ≠ some c := fun x c e => by rw [hnc] at e; cases e
  refine ⟨⟨⟨J.ok.mod, J.ok.kind, J.ok.glob, J.ok.blt, ?_, J.ok.inj, J.ok.has, fun x c _ e => absurd e (noc x c), J.ok.hd, J.ok.frames, J.ok.stk, J.ok.exf, fun b o e => ⟨?_, (e0.bs b o e).2⟩, ?_, J.ok.noex, J.ok.exfs, funs_cut e0.funs frn, e0.frf⟩, hos, e0.bare, Un.kept fun b u e => cut_sub nle e, ⟨m, hn.at' fun o e => keep _ o (nV _ above) e, fun i x v h1 h2 h3 => ?_⟩,
    fun x c e => absurd e (noc x c), old _ J.free ⟨_, hoL⟩, fun x c e => absurd e (noc x c), fun p hp => ?_, e0.hok, J.len⟩, csz⟩
  · show (cutH Φ.n s'.heap).objs.size ≤ Φ.env.locals
    rw [csz]; exact above
  · have hb : b < Φ.n := by
      rw [← sz]; exact Nat.lt_of_lt_of_le (Heap.lt_size e) J.ok.bsz
    exact (cut_get hb).trans (e0.bs b o e).1
  · show Φ.base.objs.size ≤ (cutH Φ.n s'.heap).objs.size
    rw [csz, ← sz]; exact J.ok.bsz
  · obtain ⟨u, r, q⟩ := hl i x v h1 h2 h3
    refine ⟨u, r, ?_⟩
    rcases q with q | ⟨k, c, e, z⟩
    · exact .inl q
    · exact absurd e (noc x c)
  · rcases List.mem_append.mp hp with z | z
    · obtain ⟨e, n, ne, nf, d⟩ := J.pin p (List.mem_append_left _ z)
      have z' : p = Φ.own := by simpa using z
      exact ⟨keep _ _ (hVp p (by rw [z']; exact List.mem_cons_self)) e, old _ n ⟨_, e⟩, ne, nf, d⟩
    · rcases List.mem_cons.mp z with z | z
      · rw [z]
        exact ⟨hS, hSn, Nat.ne_of_lt (Nat.lt_of_lt_of_le hSl above), hSf, fun v q => by cases q⟩
      · obtain ⟨e, n, ne, nf, d⟩ := J.pin p (List.mem_append_right _ z)
        exact ⟨keep _ _ (hVp p (List.mem_cons_of_mem _ z)) e, old _ n ⟨_, e⟩, ne, nf, d⟩
/-- the loop's frame, behind the generator's run -/
theorem cons_yield {X : Cx} {pins : List (Addr × Obj)} {σL σ : L2.St} {H0 H : Hp} {s₀ s1 : Shared} {vs : List V} {acc : Array Value} {c : Nat} {ip : List (Addr × Obj)} {h0 : Heap} {Φ : GP} (IL : Inv X pins σL (upd H0 Φ.S (.lst vs)) s₀) (hS0 : H0 Φ.S = none) (J : Inv (Φ.X h0 H0) ((Φ.S, lstObj acc c) :: ip) σ H s1)
    (hP : Φ.P = X.prog ∧ Φ.w = X.w) (hout : Φ.outer = X.stack) (get : ∀ b, b < Φ.n → h0.get? b = s₀.heap.get? b) (hos : Φ.sc.os = s₀.os)
    (low : X.s_0.heap.objs.size ≤ Φ.n ∧ X.env.locals < Φ.n ∧ (∀ x c, X.env.cells.lookup x = some c → c < Φ.n) ∧ ∀ p ∈ X.pn ++ pins, p.1 < Φ.n) (hSl : Φ.S < Φ.n) : Inv X pins σL (upd H Φ.S (.lst vs)) s1 := by
  obtain ⟨hP1, hP2⟩ := hP
  have hSn : H Φ.S = none := (J.pin (Φ.S, lstObj acc c) (List.mem_append_right _ List.mem_cons_self)).2.1
  have hSf : Φ.S ∉ frs Φ.outer := (J.pin (Φ.S, lstObj acc c) (List.mem_append_right _ List.mem_cons_self)).2.2.2.1
  have no : ∀ {b : Addr}, b ∉ ([] : List Addr) := List.not_mem_nil
  have inch : ∀ b, b ∉ (List.range s₀.heap.objs.size).filter (fun b => decide (Φ.n ≤ b)) → (∃ o, s₀.heap.get? b = some o) → b < Φ.n := fun b hb ⟨o, e⟩ => by
    by_cases h : b < Φ.n
    · exact h
    · exact absurd (List.mem_filter.mpr ⟨List.mem_range.mpr (Heap.lt_size e), decide_eq_true (Nat.not_lt.mp h)⟩) hb
  have un0 : ∀ b, upd H0 Φ.S (.lst vs) b = none → b ≠ Φ.S ∧ H0 b = none := fun b e => by
    by_cases hb : b = Φ.S
    · rw [hb, upd_same] at e; cases e
    · rw [upd_ne hb] at e; exact ⟨hb, e⟩
  refine IL.call' (ch := (List.range s₀.heap.objs.size).filter (fun b => decide (Φ.n ≤ b))) (J.os.trans hos) ⟨fun b o e n hb hc => ?_, fun b o e n hb hc => ?_, fun b o e n hc => ?_, fun b o e hc => ?_, fun b xs e => ?_, fun b o u e => ?_, fun b ps e => ?_⟩ (fun b u e => ?_) J.bare fun b hb => ?_
  · exact J.base.keep b o ((get b (inch b hc ⟨o, e⟩)).trans e) (un0 b n).2 (by rw [← hout] at hb; exact hb) no
  · exact J.base.slot b o ((get b (inch b hc ⟨o, e⟩)).trans e) (un0 b n).2 (by rw [← hout] at hb; exact hb) no
  · rw [upd_ne (un0 b n).1]
    exact J.base.free b o ((get b (inch b hc ⟨o, e⟩)).trans e) (un0 b n).2 no
  · exact J.base.there b o ((get b (inch b hc ⟨o, e⟩)).trans e) no
  · by_cases hb : b = Φ.S
    · rw [hb, upd_same] at e; cases e
    · rw [upd_ne hb] at e ⊢; exact J.base.tups b xs e
  · by_cases hb : b = Φ.S
    · rw [hb, upd_same] at e; cases e
    · rw [upd_ne hb] at e ⊢; exact J.base.frzs b o u e
  · by_cases hb : b = Φ.S
    · rw [hb, upd_same] at e; cases e
    · rw [upd_ne hb] at e ⊢; exact J.base.tbls b ps e
  · by_cases hb : b = Φ.S
    · subst hb
      rw [upd_same] at e; cases e
      obtain ⟨z, its, n, r, eb⟩ := IL.hok Φ.S _ upd_same
      exact ⟨z, its, n, r, J.base.keep Φ.S _ ((get _ hSl).trans eb) hS0 hSf no⟩
    · rw [upd_ne hb] at e
      have ok := J.hok b u e
      rw [← hP1, ← hP2]
      refine ok.stay (fun _ _ _ q => q) (fun d q => ?_) fun d xs q => ?_
      · rw [upd_ne (ne_of_none q hSn)]; exact q
      · rw [upd_ne (ne_of_none q hSn)]; exact q
  · have hb2 := (List.mem_filter.mp hb).2
    have hn : Φ.n ≤ b := of_decide_eq_true hb2
    exact ⟨.inr (Nat.le_trans low.1 hn), Nat.ne_of_gt (Nat.lt_of_lt_of_le low.2.1 hn), fun x c e => Nat.ne_of_lt (Nat.lt_of_lt_of_le (low.2.2.1 x c e) hn), fun p hp => Nat.ne_of_lt (Nat.lt_of_lt_of_le (low.2.2.2 p hp) hn)⟩
end Y
namespace Y
open PySem PySem.Spec PyProof.Rows L2 GenW
open Classical in
noncomputable def rem (H : Hp) (S : Addr) : Hp := fun a => if a = S then none else H a
theorem rem_same {H : Hp} {S : Addr} : rem H S S = none := if_pos rfl
theorem rem_ne {H : Hp} {S a : Addr} (h : a ≠ S) : rem H S a = H a := if_neg h
theorem rem_upd {H : Hp} {S : Addr} {o : HO} : upd (rem H S) S o = upd H S o := funext fun a => by
  by_cases h : a = S
  · rw [h, upd_same, upd_same]
  · rw [upd_ne h, upd_ne h, rem_ne h]
theorem rem_back {H : Hp} {S : Addr} {o : HO} (h : H S = some o) : upd (rem H S) S o = H := funext fun a => by
  by_cases e : a = S
  · rw [e, upd_same, h]
  · rw [upd_ne e, rem_ne e]
section
variable {g : G} {F F' : FH} {H H' H1 : Hp} {w w' : Bx} {S : Addr} {vs : List V}
theorem same_rem (s : Same F H) (f : F.free S) : Same F (rem H S) := fun a o e => by
  have h : a ≠ S := fun z => by
    have e : F.fz a = some o := e
    rw [z, f.1] at e; cases e
  rw [rem_ne h]; exact s a o e
theorem bx_rem (b : BxOk g F w H) (hS : H S = some (.lst vs)) (f : F.free S) (nb : S ≠ g.bx) : BxOk g F w (rem H S) :=
  b.heap (rem_ne (Ne.symm nb)) (fun i a e => rem_ne fun z => f.2 i (by rw [← z]; exact e)) fun a o h1 _ _ e => by
    have h : a ≠ S := fun z => by rw [z, hS] at e; cases e; exact h1 vs rfl
    rw [rem_ne h]; exact e
theorem env0_rem {P : Program} {w : World} {K : PySem.W.Frag} {mg : Str → Option Value} {base : Heap} {A : Around} {outer : List Env} {s : Shared} (e : Env0 P w K mg base A outer s H) (hS : H S = some (.lst vs)) : Env0 P w K mg base A outer s (rem H S) := by
  have none_rem : ∀ b, H b = none → rem H S b = none := fun b h => by
    by_cases z : b = S
    · rw [z]; exact rem_same
    · rw [rem_ne z]; exact h
  refine ⟨e.frames, e.mod, fun b o h => ⟨(e.bs b o h).1, none_rem b (e.bs b o h).2⟩, e.bsz, e.funs, fun b hb => none_rem b (e.frf b hb), fun b u h => ?_, e.bare⟩
  by_cases z : b = S
  · rw [z, rem_same] at h; cases h
  · rw [rem_ne z] at h
    refine (e.hok b u h).stay (fun _ _ _ q => q) (fun d q => ?_) fun d xs q => ?_
    · have hd : d ≠ S := fun y => by rw [y, hS] at q; cases q
      rw [rem_ne hd]; exact q
    · have hd : d ≠ S := fun y => by rw [y, hS] at q; cases q
      rw [rem_ne hd]; exact q
/-- what is done beside the list is done with it there -/
theorem Ext.side (x : Ext g F H F' H' w) (h0 : H S = none) (h1 : H' S = none) : Ext g F (upd H S (.lst vs)) F' (upd H' S (.lst vs)) w where
  ff := x.ff
  hh := fun a o h2 h3 h4 e => by
    by_cases z : a = S
    · rw [z, upd_same] at e ⊢; exact e
    · rw [upd_ne z] at e ⊢; exact x.hh a o h2 h3 h4 e
  dom := fun a e => by
    by_cases z : a = S
    · rw [z, upd_same] at e; cases e
    · rw [upd_ne z] at e ⊢; exact x.dom a e
  new := fun a o e => by
    have z : a ≠ S := fun z => by
      have := x.sub a o e
      rw [z, h1] at this; cases this
    rw [upd_ne z]; exact x.new a o e
  nad := fun i a e => by
    have z : a ≠ S := fun z => (x.bx.nocell e).2.2 (by rw [z]; exact h1)
    rw [upd_ne z]; exact x.nad i a e
  sub := fun a o e => by
    have q := x.sub a o e
    have z : a ≠ S := fun z => by rw [z, h1] at q; cases q
    rw [upd_ne z]; exact q
  bx := x.bx.grow fun a o e => by
    rw [upd_ne (ne_of_none e h1)]; exact e
  frz := fun a od u e => by
    by_cases z : a = S
    · rw [z, upd_same] at e; cases e
    · rw [upd_ne z] at e ⊢; exact x.frz a od u e
/-- what was done with the list there, and left it alone -/
theorem Ext.unside (x : Ext g F (upd H S (.lst vs)) F' H1 w) (h0 : H S = none) (h1 : H1 S = some (.lst vs)) (f : F'.free S) (nb : S ≠ g.bx) : Ext g F H F' (rem H1 S) w where
  ff := x.ff
  hh := fun a o h2 h3 h4 e => by
    have z := ne_of_none e h0
    rw [rem_ne z]
    exact x.hh a o h2 h3 h4 (by rw [upd_ne z]; exact e)
  dom := fun a e => by
    by_cases z : a = S
    · rw [z]; exact h0
    · rw [rem_ne z] at e
      have := x.dom a e
      rw [upd_ne z] at this; exact this
  new := fun a o e => by
    rcases x.new a o e with q | q
    · exact .inl q
    · by_cases z : a = S
      · rw [z, upd_same] at q; cases q
      · rw [upd_ne z] at q; exact .inr q
  nad := fun i a e => by
    rcases x.nad i a e with q | q
    · exact .inl q
    · by_cases z : a = S
      · rw [z, upd_same] at q; cases q
      · rw [upd_ne z] at q; exact .inr q
  sub := same_rem x.sub f
  bx := bx_rem x.bx h1 f nb
  frz := fun a od u e => by
    have z := ne_of_none e h0
    rw [rem_ne z]
    exact x.frz a od u (by rw [upd_ne z]; exact e)
end
def datAt (S : SL) (i : Nat) : Option D := match S[i]? with
  | some (some (.dat d)) => some d
  | _ => none
structure DEx (X : Cx) (g : G) (e : Expr) (f : SL → Option D) : Prop where
  run : ∃ t, PEx X e t ∧ ∀ σ H Q F S w d, Rel g F w S σ H → f S = some d → (∀ v H' F', Ext g F H F' H' w → DR g F' v d → Q v H') → t σ H Q
section
variable {X : Cx} {g : G} {e : Expr} {es : List Expr} {pos : Pos} {k : SL → Option (List D)}
theorem datAt_some {S : SL} {i : Nat} {d : D} (h : datAt S i = some d) : S[i]? = some (some (.dat d)) := by
  unfold datAt at h
  split at h
  · cases h; assumption
  · cases h
theorem dex_var (i : Nat) {x : Str} (hN : X.N[i]? = some x := by rfl) (hv : Vis X.env.scope x := by first | exact Or.inl rfl | exact Or.inr (Or.inl rfl) | exact Or.inr (Or.inr rfl)) (hd : (x == ("__debug__" : Str)) = false := by decide)
    (hcd : (x == ("__classdict__" : Str)) = false := by decide) : DEx X g (.Name x pos) (fun S => datAt S i) := by
  refine ⟨_, pex_var hN hv hd hcd, fun σ H Q F S w d R h q => ?_⟩
  obtain ⟨v, e1, e2⟩ := R.sl i _ (datAt_some h)
  exact ⟨v, e1, q v H F R.ex e2⟩
end
def appL (gm : GM) (i : Nat) (f : SL → Option D) : List D → SL → Option SL
  | [], S => some S
  | d :: ds, S => (gm d S).bind fun S1 => (ownAt S1 i).bind fun L => (f S1).bind fun e => if L.length < sizeN then appL gm i f ds (S1.set i (some (.own (L ++ [e])))) else none
theorem appL_app {gm : GM} {i : Nat} {f : SL → Option D} : ∀ (a b : List D) (S S' : SL), appL gm i f (a ++ b) S = some S' → ∃ S1, appL gm i f a S = some S1 ∧ appL gm i f b S1 = some S'
  | [], b, S, S', h => ⟨S, rfl, h⟩
  | d :: a, b, S, S', h => by
    rw [List.cons_append] at h
    unfold appL at h
    obtain ⟨S1, h1, h2⟩ := Option.bind_eq_some_iff.mp h
    obtain ⟨L, h3, h4⟩ := Option.bind_eq_some_iff.mp h2
    obtain ⟨e, h5, h6⟩ := Option.bind_eq_some_iff.mp h4
    by_cases hl : L.length < sizeN
    · rw [if_pos hl] at h6
      obtain ⟨S2, h7, h8⟩ := appL_app a b _ S' h6
      refine ⟨S2, ?_, h8⟩
      unfold appL
      rw [h1, Option.bind_some, h3, Option.bind_some, h5, Option.bind_some, if_pos hl]; exact h7
    · rw [if_neg hl] at h6; cases h6
theorem appL_one {gm : GM} {i : Nat} {f : SL → Option D} {d : D} {S S' : SL} (h : appL gm i f [d] S = some S') : ∃ S1 L e, gm d S = some S1 ∧ ownAt S1 i = some L ∧ f S1 = some e ∧ L.length < sizeN ∧ S' = S1.set i (some (.own (L ++ [e]))) := by
  unfold appL at h
  obtain ⟨S1, h1, h2⟩ := Option.bind_eq_some_iff.mp h
  obtain ⟨L, h3, h4⟩ := Option.bind_eq_some_iff.mp h2
  obtain ⟨e, h5, h6⟩ := Option.bind_eq_some_iff.mp h4
  by_cases hl : L.length < sizeN
  · rw [if_pos hl] at h6
    exact ⟨S1, L, e, h1, h3, h5, hl, (Option.some.inj h6).symm⟩
  · rw [if_neg hl] at h6; cases h6
end Y
namespace Y
open PySem PySem.Spec PyProof.Rows L2 GenW
/-- an expression whose value is a generator that has not begun, made beside the list at q -/
structure PGenF (X : Cx) (g : G) (k : Nat) (e : Expr) (fi : AM) : Prop where
  run : ∀ (pins : List (Addr × Obj)) (s : Shared) (σ : L2.St) (H : Hp) (F : FH) (S : SL) (w : Bx) (es : List D) (w1 : Bx), Inv X pins σ H s → Rel g F w S σ H → fi S w = .ok es w1 → ∀ (q : Addr) (vs : List V), H q = some (.lst vs) → F.free q → q ≠ g.bx →
    wpAny (model X.prog X.w) X.A (eval e X.env) (fun u s' => ∃ s1 H1 F1 wc, Inv X pins σ H1 s1 ∧ Ext g F H F1 H1 wc ∧ GMadeF X.prog X.w X.K X.mg X.base k g X.stack (rem H1 q) F1 s1 es w1 u s') X.xe s
def sForA (fi : AM) (gm : GM) (i : Nat) (f : SL → Option D) : SM := fun S w => match ownAt S i with
  | none => .bad
  | some _ => match fi S w with
    | .ok es w1 => if es.length < sizeN then (match appL gm i f es S with
      | some S1 => .nx S1 w1
      | none => .bad) else .bad
    | _ => .bad
section
variable {X : Cx} {pins : List (Addr × Obj)} {σ : L2.St} {H : Hp} {s : Shared}
theorem inv_gens {g' : Array GenState} (I : Inv X pins σ H s) (h : AllBare g') : Inv X pins σ H { s with gens := g' } :=
  I.call' (ch := []) rfl Un.refl I.hok h fun b z => by simp at z
theorem inv_setGen {gn : Nat} {x : GenState} (I : Inv X pins σ H s) (h : x.bare = true) : Inv X pins σ H (s.setGen gn x) := inv_gens I (allBare_setGen I.bare h)
/-- what the loop keeps of the states in which it wakes the generator -/
def GdA (X : Cx) (pins : List (Addr × Obj)) (g : G) (F0 : FH) (H0 : Hp) (B : FH) (gm : GM) (i : Nat) (f : SL → Option D) (S0 : SL) (q : Addr) : Shared → Hp → FH → List D → Prop := fun s H' F' ds =>
  ∃ (σL : L2.St) (SL : SL) (vs : List V) (w : Bx), Inv X pins σL (upd H' q (.lst vs)) s ∧ RelS g F0 H0 B F' w SL σL (upd H' q (.lst vs)) ∧ H' q = none ∧ appL gm i f ds S0 = some SL ∧ σL[i]? = some (some (.ref q)) ∧ F'.free q
end
theorem ds_forA {X : Cx} {g : G} {E : EK} {F0 : FH} {H0 : Hp} {tg iter a : Expr} {i k : Nat} {x : Str} {px apos p pos pos1 : Pos} {fi : AM} {gm : GM} {f : SL → Option D} {ns : List Nat}
    (hp : PassesOwn (model X.prog X.w) X.A X.env X.xe) (hc : X.calm = true) (hr : Room (k + 1) X.A) (hi : PGenF X g k iter fi) (hg : DGx X g tg ns gm) (ha : DEx X g a f) (hN : X.N[i]? = some x := by rfl) (hv : Vis X.env.scope x := by first | exact Or.inl rfl | exact Or.inr (Or.inl rfl) | exact Or.inr (Or.inr rfl)) (hs : ∀ x, foldedSetIterable iter X.env x = pure x := by intro _; rfl)
    (hd : (x == ("__debug__" : Str)) = false := by decide) (hcd : (x == ("__classdict__" : Str)) = false := by decide)
    (hbase : attributeBase (.Name x px) "append" X.env (eval (.Name x px) X.env) = eval (.Name x px) X.env := by rfl)
    (hfew : ((backTo p (starEach [a] X.env)).all (fun x => !x.1) && (backToKw p (keywordEach [] X.env)).all (fun x => x.1.isSome)
      && decide ([a].length + ([] : List Keyword).length + (if ([] : List Keyword).isEmpty then 0 else 1) < 30)) = true := by rfl)
    (hline : (apos.endLine == p.line) = true := by rfl) (hst : starEach [a] X.env = (false, eval a X.env) :: starEach [] X.env := by rfl) (hplain : (backTo p (starEach [] X.env)).any (·.1) = false := by rfl)
    (hsw : swapsWith (.Call (.Attribute (.Name x px) "append" apos) [a] [] p) none pos1.line X.env = pure false := by rfl) :
    DS X g E F0 H0 (.For tg iter [.Expr (.Call (.Attribute (.Name x px) "append" apos) [a] [] p) pos1] [] pos) (sForA fi gm i f) := by
  refine ⟨fun N σ H => ∃ F S w B, RelS g F0 H0 B F w S σ H ∧ PostS g F0 H0 B E N (sForA fi gm i f S w), ⟨fun pins s σ H N1 I ht => ?_⟩, fun N σ H F S w B R h => ⟨F, S, w, B, R, h⟩⟩
  obtain ⟨F, S, w, B, R, hpost⟩ := ht
  unfold sForA at hpost
  cases ho : ownAt S i with
  | none => rw [ho] at hpost; exact hpost.elim
  | some dsL =>
  rw [ho] at hpost
  cases hfi : fi S w with
  | err c l w1 => simp only [hfi] at hpost; exact hpost.elim
  | bad => simp only [hfi] at hpost; exact hpost.elim
  | ok es w1 =>
  simp only [hfi] at hpost
  by_cases hlen : es.length < sizeN
  case neg => rw [if_neg hlen] at hpost; exact hpost.elim
  rw [if_pos hlen] at hpost
  cases hap : appL gm i f es S with
  | none => simp only [hap] at hpost; exact hpost.elim
  | some S' =>
  simp only [hap] at hpost
  have hi0 := ownAt_some ho
  obtain ⟨v0, e1, q, vs0, ev, nF, nb, hq, rd0⟩ := R.rel.sl i _ hi0
  subst ev
  refine wpAny_For (thn (hi.run pins s σ H F S w es w1 I R.rel hfi q vs0 hq nF nb) fun u s' hu => ?_) hs
  obtain ⟨s1, H1, F1, wc, I1, x1, made⟩ := hu
  obtain ⟨N', qual, scope, fa, cd, gn, c, own, σ0, eu, ⟨nm, qn, hoc, hod, hos1⟩, ha1, hgn, hos, hbare, hlim, hkp, hnc, prom⟩ := made
  subst eu
  have R1 := R.ext' x1
  have hq1 : H1 q = some (.lst vs0) := x1.hh q _ nb nF.2 (fun ps z => by cases z) hq
  have nF1 : F1.free q := x1.free nF hq
  have hrA : Room k X.A.in1 := hr.in1
  have hfr : X.A.in1.frames = some X.stack := I1.ok.frames
  obtain ⟨tgt, pgx, rg⟩ := hg.run
  obtain ⟨te, pex, rex⟩ := ha.run
  -- the consumer's own facts
  have low : X.s_0.heap.objs.size ≤ s1.heap.objs.size ∧ X.env.locals < s1.heap.objs.size ∧ (∀ y c, X.env.cells.lookup y = some c → c < s1.heap.objs.size) ∧ ∀ p ∈ X.pn ++ pins, p.1 < s1.heap.objs.size :=
    ⟨I1.sz, I1.lt, fun y c e => let ⟨_, z⟩ := I1.cell y c e; z.lt, fun p hp => Heap.lt_size (I1.pin p hp).1⟩
  have hql : q < s1.heap.objs.size := I1.hok.lt hq1
  have hqf : q ∉ frs X.stack := fun hb => by rw [I1.stkFree q hb] at hq1; cases hq1
  have I1' : Inv X pins σ H1 s' := I1.call' (ch := []) hos (Un.kept hkp) (I1.hok.kept hkp) hbare fun b z => by simp at z
  let Gd := GdA X pins g F0 H0 B gm i f S q
  let Φ : GP := gpOf X.prog X.w X.K X.mg X.base N' qual scope fa cd X.A.in1 X.stack s1.heap.objs.size s1 q Gd own es
  obtain ⟨Ig, seg⟩ := prom X.A.in1 q Gd hrA hfr
  have Ig : Inv (Φ.X s1.heap (rem H1 q)) [] σ0 (rem H1 q) s' := Ig
  have hown0 : s'.heap.get? own.1 = some own.2 := (Ig.pin own (List.mem_append_left _ (List.mem_singleton.mpr rfl))).1
  have gen_of : ∀ {h : Heap}, h.get? own.1 = some own.2 → h.IsGen own.1 gn := fun h => ⟨own.2, nm, qn, h, hoc, hod, hos1⟩
  refine wpAny_pyIter_gen (gen_of hown0) ?_
  let Vo : Addr → Prop := fun b => b = X.env.locals ∨ (∃ y, X.env.cells.lookup y = some b) ∨ b = q
  have hVo : ∀ b, Vo b → b < s1.heap.objs.size := fun b hb => by
    rcases hb with rfl | ⟨y, e⟩ | rfl
    · exact low.2.1
    · exact low.2.2.1 y b e
    · exact hql
  -- waking
  have wakes : ∀ {h0 : Heap} {Hr Hg H3 : Hp} {σg : L2.St} {t t3 : Shared} {ip : List (Addr × Obj)} {vs : List V} {σL : L2.St}, Inv (Φ.X h0 Hr) ip σg Hg t → h0.objs.size = s1.heap.objs.size → (∀ p ∈ ip, s1.heap.objs.size ≤ p.1) → (∀ b o, ¬ Vo b → t.heap.get? b = some o → t3.heap.get? b = some o) →
      Inv X pins σL H3 t3 → H3 q = some (.lst vs) → (∀ b, Hg b = none → (∃ o, t.heap.get? b = some o) → rem H3 q b = none) →
      ∃ acc c, Inv (Φ.X (cutH s1.heap.objs.size t3.heap) (rem H3 q)) ((q, lstObj acc c) :: ip) σg (rem H3 q) t3 ∧ (cutH s1.heap.objs.size t3.heap).objs.size = s1.heap.objs.size := fun {h0 Hr Hg H3 σg t t3 ip vs σL} J hsz hip keep I3 hq3 old => by
    obtain ⟨z, its, n, r, eb⟩ := I3.hok q _ hq3
    have hos3 : t3.os = s1.os := I3.os.trans I1.os.symm
    refine ⟨its.toArray, n, ?_⟩
    refine gen_wake (Φ := Φ) (A' := X.A) J hsz hnc hos3 Vo hVo (fun p hp hb => ?_) keep (env0_rem I3.env0 hq3) old eb rem_same hql hqf
    have lt := hVo _ hb
    rcases List.mem_cons.mp hp with z | z
    · rw [z] at lt; exact absurd lt (Nat.not_lt.mpr ha1)
    · exact absurd lt (Nat.not_lt.mpr (hip p z))
  have rem_upd_q : ∀ (H : Hp) (vs : List V), H q = none → rem (upd H q (.lst vs)) q = H := fun H vs h => funext fun b => by
    by_cases e : b = q
    · rw [e, rem_same, h]
    · rw [rem_ne e, upd_ne e]
  refine codeAny_forLoop_any (fun n st => ∃ (ds : List D) (H' : Hp) (F' : FH) (gs : GenState), Gd (st.setGen gn .running) H' F' ds ∧ st.gens[gn]? = some gs ∧
    gs.Goes (model X.prog X.w) X.A.in1 (RF Φ g es w1) (GYF Φ g) n (.send .none) (st.setGen gn .running) ∧ st.heap.get? own.1 = some own.2) ?_ sizeLine ?_
  · rintro n st ⟨ds, H', F', gs, gd, hgs, hgo, hown⟩
    have hgl : gn < st.gens.size := (Array.getElem?_eq_some_iff.mp hgs).1
    obtain ⟨σS, SS, vsS, wS, IS, _, _, _, _, _⟩ := id gd
    have hlimS : st.heap.NoLimit := IS.nolimit
    refine wpAny_passesOwn hp (wpAny_gsz (n := gn + 1) hgl (next_genG (A := X.A) (F := FinF Φ g es w1) (Er := fun _ _ => False) (I1.ok.hd hc) hlimS hr.depth (gen_of hown) hgs hgo (fun v t1 gs' hb' hvv => ?_) (fun t1 hfin h' hk => ?_) fun e t1 z => z.elim))
    · intro hsz
      have hsz1 : gn < t1.gens.size := by
        have e : (t1.setGen gn gs').gens.size = t1.gens.size := setGen_size _ _ _
        omega
      obtain ⟨xv, ds', d, ip, σg, Hg, Fg, Bg, Sg, wg, hn', rv, hip, ⟨h0, Hr, Fr, acc, cc, G⟩, rdx, hpre, wake⟩ := hvv
      obtain ⟨σL, SL, vs, wL, IL, RL, hqn, hapL, hσ, nFL⟩ := G.good
      obtain ⟨rest, hes⟩ := hpre
      have hes : (ds' ++ [d]) ++ rest = es := hes
      rw [← hes] at hap
      obtain ⟨S2, hap1, hap2⟩ := appL_app (ds' ++ [d]) rest S S' hap
      obtain ⟨SL', hap3, hap4⟩ := appL_app ds' [d] S S2 hap1
      rw [hapL] at hap3; cases hap3
      obtain ⟨S1, L, ee, hgm, hoL, hf, hlL, eS2⟩ := appL_one hap4
      have hgq : Hg q = none := (G.inv.pin (q, lstObj acc cc) (List.mem_append_right _ List.mem_cons_self)).2.1
      have IL1 : Inv X pins σL (upd Hg q (.lst vs)) t1 := cons_yield (Φ := Φ) IL hqn G.inv ⟨rfl, rfl⟩ rfl G.get (I1.os.trans IL.os.symm) low hql
      have RL1 := RL.ext' (Ext.side (vs := vs) G.rel.ext hqn hgq)
      have I2 : Inv X pins σL (upd Hg q (.lst vs)) (t1.setGen gn gs') := inv_setGen IL1 hb'
      have hown1 : t1.heap.get? own.1 = some own.2 := (G.inv.pin own (List.mem_append_left _ (List.mem_singleton.mpr rfl))).1
      refine wpAny_passesOwn hp (go_of (s := t1.setGen gn gs') hown1 hoc hod (by decide) ?_)
      refine wpAny_passesOwn hp (thn (pgx.run pins _ σL _ xv v (fun σ' H' => H' = upd Hg q (.lst vs) ∧ RelS g F0 H0 B Fg wg S1 σ' (upd Hg q (.lst vs)) ∧ σ'[i]? = some (some (.ref q))) I2 rv (rg xv σL _ _ Fg SL wg d S1 RL1.rel rdx hgm fun σ' Rl hw => ⟨rfl, RL1.tgt hg.dg hgm Rl hw, ?_⟩)) fun _ t2 ⟨⟨σ2, H2, I3, eH, R2, hσ2⟩, ex⟩ => ?_)
      · obtain ⟨_, ni⟩ := hg.own d SL S1 i L hgm (ownAt_some hoL)
        rw [wipe_off (hw ns fun _ z => z) ni]; exact hσ
      subst eH
      have hoS := ownAt_some hoL
      obtain ⟨v2, e2, q2, vs2, ev2, nF2, nb2, hq2, rd2⟩ := R2.rel.sl i _ hoS
      rw [hσ2] at e2; cases e2; cases ev2
      rw [upd_same] at hq2; cases hq2
      refine wpAny_passesOwn hp (wpAny_execs_cons (wpAny_mono (append_x pex I3 hN hv hσ2 upd_same (by rw [rd2.length]; exact hlL) (rex σ2 _ (fun v H' => ∃ F', Ext g Fg (upd Hg q (.lst vs)) F' H' wg ∧ DR g F' v ee) Fg S1 wg ee R2.rel hf fun v H' F' x r => ⟨F', x, r⟩) hd hcd hbase hfew hline hst hplain hsw) (fun fl t3 h3 => ?_) fun _ _ z => z))
      obtain ⟨rfl, ⟨v3, H3, I4, ⟨F3, x3, r3⟩, nw⟩, kx⟩ := h3
      refine wpAny_execs_nil ?_
      have hq3 : H3 q = some (.lst vs) := nw.2.1 q _ upd_same
      have nF3 : F3.free q := x3.free nF2 upd_same
      have xu : Ext g Fg Hg F3 (rem H3 q) wg := Ext.unside x3 hgq hq3 nF3 nb
      have bare3 : AllBare t3.gens := I4.bare
      have I5 : Inv X pins σ2 (upd H3 q (.lst (vs ++ [v3]))) (t3.setGen gn .running) := inv_setGen I4 rfl
      have gd3 : Gd (t3.setGen gn .running) (rem H3 q) F3 (ds' ++ [d]) := by
        refine ⟨σ2, S1.set i (some (.own (L ++ [ee]))), vs ++ [v3], wg, by rw [rem_upd]; exact I5, ?_, rem_same, by rw [← eS2]; exact hap1, hσ2, nF3⟩
        rw [rem_upd]
        exact (R2.ext' x3).mut hoS hσ2 nF3 nb ((rd2.mono x3.ff).append (.cons r3 .nil))
      have keep3 : ∀ b o, ¬ Vo b → t1.heap.get? b = some o → (t3.setGen gn .running).heap.get? b = some o := fun b o nb e =>
        kx.keep b o (fun z => nb (.inr (.inr z))) (ex.keep b o (fun z => nb (.inl z)) (fun y c e z => nb (.inr (.inl ⟨y, by rw [← z]; exact e⟩))) e)
      have J1 : Inv (Φ.X h0 Hr) ip σg Hg t1 := G.inv.pins_of fun p hp => G.inv.pin p (List.mem_append_right _ (List.mem_cons_of_mem _ hp))
      obtain ⟨acc3, c3, J3, sz3⟩ := wakes J1 G.sz hip keep3 I5 upd_same (fun b hb ⟨o, eo⟩ => by
        by_cases z : b = q
        · rw [z]; exact rem_same
        · rw [rem_ne z, upd_ne z]
          cases h3b : H3 b with
          | none => rfl
          | some u3 =>
            obtain ⟨o2, eo2⟩ := ex.there b o eo
            exact absurd (Heap.lt_size eo2) (Nat.not_lt.mpr (nw.2.2 b (by rw [upd_ne z]; exact hb) (by rw [h3b]; exact fun z => nomatch z))))
      rw [show rem (upd H3 q (.lst (vs ++ [v3]))) q = rem H3 q by rw [← rem_upd]; exact rem_upd_q _ _ rem_same] at J3
      have kap := wake (t3.setGen gn .running) F3 (rem H3 q) xu ⟨_, acc3, c3, J3, sz3, fun b hb => cut_get hb, gd3⟩
      have hgens : t3.gens[gn]? = some gs' := by
        rw [kx.gens, ex.gens]; exact setGen_at hsz1
      have hown3 : t3.heap.get? own.1 = some own.2 := keep3 _ _ (fun z => absurd (hVo _ z) (Nat.not_lt.mpr ha1)) hown1
      cases n with
      | zero => exact kap.elim
      | succ m => exact ⟨m, Nat.lt_succ_self m, ds' ++ [d], rem H3 q, F3, gs', gd3, hgens, kap, hown3⟩
    · intro hsz
      obtain ⟨Bg, ip, σg, Hg, Fg, Sg, hn', h0, Hr, Fr, acc, cc, G⟩ := hfin
      obtain ⟨σL, SL, vs, wL, IL, RL, hqn, hapL, hσ, nFL⟩ := G.good
      rw [hap] at hapL; cases hapL
      have hgq : Hg q = none := (G.inv.pin (q, lstObj acc cc) (List.mem_append_right _ List.mem_cons_self)).2.1
      have IL1 : Inv X pins σL (upd Hg q (.lst vs)) t1 := cons_yield (Φ := Φ) IL hqn G.inv ⟨rfl, rfl⟩ rfl G.get (I1.os.trans IL.os.symm) low hql
      have RL1 := RL.ext' (Ext.side (vs := vs) G.rel.ext hqn hgq)
      refine wpAny_execs_nil ⟨σL, _, ?_, hpost σL _ Fg RL1⟩
      exact IL1.call' (ch := []) rfl (Un.kept hk) (IL1.hok.kept hk) (allBare_setGen IL1.bare rfl) fun b z => by simp at z
  · have gd0 : Gd (s'.setGen gn .running) (rem H1 q) F1 [] := by
      refine ⟨σ, S, vs0, wc, by rw [rem_back hq1]; exact inv_setGen I1' rfl, by rw [rem_back hq1]; exact R1, rem_same, rfl, e1, nF1⟩
    obtain ⟨acc0, c0, J0, sz0⟩ := wakes (t3 := s'.setGen gn .running) Ig rfl (fun p hp => absurd hp List.not_mem_nil) (fun b o _ e => e) (inv_setGen I1' rfl) hq1 (fun b hb _ => hb)
    exact ⟨[], rem H1 q, F1, .fresh c, gd0, hgn, ⟨rfl, seg (s'.setGen gn .running) ⟨_, acc0, c0, J0, sz0, fun b hb => cut_get hb, gd0⟩⟩, hown0⟩
end Y
namespace Y
open PySem PySem.Spec PyProof.Rows L2 GenW
end Y
namespace Y
open PySem PySem.Spec PyProof.Rows L2
open L2H (RoomH roomH_of)
section
variable {X : Cx} {c : Str} {p pos p2 : Pos} {e : Expr} {es : List Expr} {t : TA} {k n : Nat} {f : Addr} {fd : FuncData} {ps : List Str} {sp : Sp}
end
section
variable {X : Cx} {g : G} {E : EK} {F0 : FH} {H0 : Hp} {e : Expr} {es : List Expr} {pos p pos2 cpos : Pos} {fe : EM} {fs : AM} {c f T x : Str} {b : XB} {j k n : Nat} {m : List D → Bx → R D}
end
section
variable {X : Cx} {body suite : List Stmt} {b₀ : Stmt} {t : Expr} {cs : List Value} {pos hp : Pos} {tb : WX → TS} {ts : Addr → Value → Option Addr → TS} {Wout : WX}
end
section
variable {X : Cx} {g : G} {E : EK} {F0 : FH} {H0 : Hp} {body : List Stmt} {b₀ : Stmt} {mb ms : SM} {t : Expr} {cs : List Value} {L : List Str} {pos hp : Pos}
end
section
variable {L : List Str} {mb ms : SM} {S S1 : SL} {w w1 : Bx} {c : Str} {fs : List (Str × D)} {d : D} {r : RS}
end
end Y
namespace Y
open PySem PySem.Spec PyProof.Rows L2
section
variable {P : Program} {w : World} {K : PySem.W.Frag} {mg : Str → Option Value} {base : Heap} {cls : CT}
end
section
variable {X : Cx} {g : G} {E : EK} {e : Expr} {es : List Expr} {pos p : Pos} {fs : AM} {x : Str} {k n : Nat} {m : List D → Bx → R D}
end
section
variable {P : Program} {w : World} {K : PySem.W.Frag} {mg : Str → Option Value} {base : Heap} {cls : CT}
end
section
variable {X : Cx} {g : G} {E : EK} {e : Expr} {es : List Expr} {pos p apos : Pos} {fs : AM} {c m x : Str} {k n : Nat} {mm : List D → Bx → R D}
end
section
variable {X : Cx} {g : G} {E : EK} {F0 : FH} {H0 : Hp} {body : List Stmt} {b₀ : Stmt} {mb ms : SM} {x : Str} {es : List Expr} {xs L : List Str} {k : Nat} {pos hp np tpos : Pos}
end
end Y
namespace Y
open PySem PySem.Spec PyProof.Rows L2
open PySem.StrLaws PySem.Builtin PySem.Builtin.Str
end Y
namespace Y
open PySem PySem.Spec PyProof.Rows L2 GenW
def DefD (K : PySem.W.Frag) (mg : Str → Option Value) (x : Str) (st : Stmt) (dvs : List V) (kws : List (Str × V)) : Prop := ∃ f fd, mg x = some (.ref f) ∧ FunD K x x (defArgs st) (defBody st) (defScope st) dvs kws f fd
theorem funD0 {K : PySem.W.Frag} {x qual : Str} {st : Stmt} {kws : List (Str × V)} {f : Addr} {fd : FuncData} (F : FunD K x qual (defArgs st) (defBody st) (defScope st) [] kws f fd) : Fun K x qual st f fd := by
  obtain ⟨oc, od, dV, kV, doc, pm, an, cdv, ct, osl, e, lk, hcd, hD, hK⟩ := F.ex
  rcases hD with ⟨_, rfl⟩ | ⟨z, _⟩
  · exact ⟨⟨oc, od, kV, doc, pm, an, cdv, ct, osl, e, lk, hcd⟩, F.kp⟩
  · exact absurd rfl z
/-- list(f(..)), the defaults dd behind -/
structure CalGD (P : Program) (w : World) (K : PySem.W.Frag) (mg : Str → Option Value) (base : Heap) (cls : CT) (x : Str) (k n : Nat) (dd : List D) (mo : List D → Bx → R (List D)) : Prop where
  ex : ∃ (f : Addr) (fd : FuncData) (ps : List Str) (ds : List Value) (dvs : List V), GFn P w K mg base k f fd ps (spMG K cls (n + dd.length) mo) ∧ mg x = some (.ref f) ∧ PySem.W.keepIn K (.ref f) = true ∧ Binds K fd ps ds ∧ Vals dvs ds ∧ ∀ (g : G) (F : FH), DRs g F dvs dd
/-- f(.., k=v) -/
structure CalGK (P : Program) (w : World) (K : PySem.W.Frag) (mg : Str → Option Value) (base : Heap) (cls : CT) (x : Str) (k n : Nat) (ks : List Str) (mo : List D → Bx → R (List D)) : Prop where
  ex : ∃ (f : Addr) (fd : FuncData) (ps : List Str), GFn P w K mg base k f fd ps (spMG K cls (n + ks.length) mo) ∧ mg x = some (.ref f) ∧ PySem.W.keepIn K (.ref f) = true ∧ KBn K fd ps n ks (fun us ws => us ++ ws) (fun vs zs => vs ++ zs)
structure CalGFK (P : Program) (w : World) (K : PySem.W.Frag) (mg : Str → Option Value) (base : Heap) (cls : CT) (x : Str) (k n : Nat) (ks : List Str) (mo : List D → Bx → R (List D)) : Prop where
  ex : ∃ (f : Addr) (fd : FuncData) (ps : List Str), GFnF P w K mg base cls k f fd ps mo ∧ ps.length = n + ks.length ∧ mg x = some (.ref f) ∧ PySem.W.keepIn K (.ref f) = true ∧ KBn K fd ps n ks (fun us ws => us ++ ws) (fun vs zs => vs ++ zs)
def oListGD (n : Nat) (dd : List D) (mo : List D → Bx → R (List D)) (fs : AM) : AM := fun S w => (fs S w).bind fun ds w1 => if ds.length = n then (match mo (ds ++ dd) w1 with
  | .ok es w2 => .ok es w2
  | _ => .bad) else .bad
def oGenK (n m : Nat) (mo : List D → Bx → R (List D)) (fs fk : AM) : AM := fun S w => (fs S w).bind fun ds w1 => (fk S w1).bind fun es w2 => if ds.length = n ∧ es.length = m then (match mo (ds ++ es) w2 with
  | .ok zs w3 => .ok zs w3
  | _ => .bad) else .bad
section
variable {X : Cx} {g : G} {E : EK} {e : Expr} {es : List Expr} {pos pos' p p' : Pos} {fs fk : AM} {x : Str} {k n : Nat} {mo : List D → Bx → R (List D)} {dd : List D} {ks : List Str} {kws : List Keyword}
theorem mo_run {F F1 : FH} {H H1 : Hp} {w w1 : Bx} {E : XK} {vs : List V} {ds : List D} {Q : VK} {m : Nat} (x1 : Ext g F H F1 H1 w1) (r1 : DRs g F1 vs ds) (hl : ds.length = m) (h : PostO g F H Q E (match mo ds w1 with
    | .ok es w2 => .ok es w2
    | _ => .bad)) : spMG g.K g.cls m mo vs H1 (fun out H2 => ∀ p, H2 p = none → Q (.ref p) (upd H2 p (.lst out))) E0 := by
  refine ⟨by rw [r1.length]; exact hl, g.bq, F1, ds, w1, x1.sub, x1.bx, r1, ?_⟩
  cases hmo : mo ds w1 with
  | ok es w2 =>
    rw [hmo] at h
    intro us H' F' x2 rs p np
    have x12 := x1.trans x2
    exact h p us _ F' (x12.trans (Ext.own x2.sub x2.bx np)) (x12.fresh np) (free_of x2.sub x2.bx np) upd_same rs
  | err c fs w2 => rw [hmo] at h; exact h.elim
  | bad => rw [hmo] at h; exact h.elim
theorem do_listGD (hK : g.K = X.K) (M : CalGD X.prog X.w X.K X.mg X.base g.cls x k n dd mo) (hr : Room (k + 3) X.A) (hm : X.mg "list" = none) (ha : DA X g E (e :: es) fs) (hgx : Gl X x := by rfl) (hg : Gl X "list" := by rfl) (hdb : (x == ("__debug__" : Str)) = false := by decide)
    (he1 : starEach (e :: es) X.env = (false, eval e X.env) :: starEach es X.env := by rfl) (hpl : (backTo pos' (starEach es X.env)).any (·.1) = false := by rfl)
    (he : starEach [.Call (.Name x p') (e :: es) [] pos'] X.env = (false, eval (.Call (.Name x p') (e :: es) [] pos') X.env) :: starEach [] X.env := by rfl) :
    DO X g E (.Call (.Name "list" p) [.Call (.Name x p') (e :: es) [] pos'] [] pos) (oListGD n dd mo fs) := by
  obtain ⟨f, fd, ps, ds, dvs, F, hmx, hk, hb, hv, hd⟩ := M.ex
  obtain ⟨ta, pa, ra⟩ := ha.run
  refine ⟨_, pe_listG (E := E0) (pgen_call F (hr.mono (by omega)) hgx hmx hk hb hv pa hdb he1 hpl) passL (fun _ _ _ z => z.elim) hr hg hm (by decide +kernel) (he := he), fun σ H Q F1 S w R h => ?_⟩
  refine ra σ H _ F1 S w R (PostG.imp (PostG.bind h) fun ds1 w1 _ h1 vs H1 F2 x1 r1 => ?_)
  by_cases hn : ds1.length = n
  · rw [if_pos hn] at h1
    show spMG X.K g.cls (n + dd.length) mo (vs ++ dvs) H1 _ E0
    rw [← hK]
    exact mo_run (w := w1) x1 (r1.append (hd g F2)) (by rw [List.length_append, hn]) h1
  · rw [if_neg hn] at h1; exact h1.elim
def tCallGK (sp : SpG) (n m : Nat) (E : XK) (t tk : TA) : TGen := fun σ H cont => t σ H fun vs H1 => tk σ H1 fun zs H2 => vs.length = n ∧ zs.length = m ∧ sp (vs ++ zs) H2 cont E
theorem pgen_callK {E : XK} {f : Addr} {fd : FuncData} {ps : List Str} {sp : SpG} {t tk : TA} (F : GFn X.prog X.w X.K X.mg X.base k f fd ps sp) (hr : Room k X.A) (hg : Gl X x) (hm : X.mg x = some (.ref f)) (hk : PySem.W.keepIn X.K (.ref f) = true) (hb : KBn X.K fd ps n ks (fun us ws => us ++ ws) (fun vs zs => vs ++ zs))
    (ha : PA X (e :: es) t) (hkw : PK X kws tk) (hall : (backToKw pos (keywordEach kws X.env)).all (·.1.isSome) = true) (hks : (backToKw pos (keywordEach kws X.env)).filterMap (·.1) = ks)
    (hdb : (x == ("__debug__" : Str)) = false) (he : starEach (e :: es) X.env = (false, eval e X.env) :: starEach es X.env)
    (hpl : ((backTo pos (starEach (e :: es) X.env)).any (·.1) || (backToKw pos (keywordEach kws X.env)).any (·.1.isNone)) = false) :
    PGen X k (.Call (.Name x p) (e :: es) kws pos) (tCallGK sp n ks.length E t tk) E := by
  refine ⟨fun pins s σ H cont I h => ?_⟩
  refine wpAny_Call_Name_kw (ld_glob I hg hm ?_ hdb)
  refine PySem.W.callWith_KW (h₀ := X.base) I.ok.mod.kin hk hall (thn (ha.run pos pins s σ H _ I h) fun us s1 ⟨vs, H1, I1, r, q⟩ => ?_) hpl he
  refine thn (hkw.run pos pins s1 σ H1 _ I1 q) fun ws s2 ⟨zs, H2, I2, rz, l1, l2, q2⟩ => ⟨I2.kIn, ?_⟩
  rw [hks]
  refine wpAny_call (codeAny_mono (F.run X.A X.stack s2 H2 ⟨us, ks.zip ws⟩ (us ++ ws) (vs ++ zs) cont E hr I2.env0 (hb.to s2 us ws I2.kIn (r.length.symm.trans l1) (rz.length.symm.trans l2)) (hb.rel r rz) q2) fun r s' hq => ?_)
  cases r with
  | error e => exact False.elim hq
  | ok fl =>
    cases fl with
    | ret u => exact ⟨H2, s2, [], I2, .nil, hq⟩
    | next => exact False.elim hq
    | brk => exact False.elim hq
    | cont => exact False.elim hq
theorem do_listGK {kk : Nat} (hK : g.K = X.K) (M : CalGK X.prog X.w X.K X.mg X.base g.cls x k n ks mo) (hr : Room (k + 3) X.A) (hm : X.mg "list" = none) (ha : DA X g E (e :: es) fs) (hkw : DKw X g E kws fk) (hgx : Gl X x := by rfl) (hg : Gl X "list" := by rfl) (hdb : (x == ("__debug__" : Str)) = false := by decide)
    (hall : (backToKw pos' (keywordEach kws X.env)).all (·.1.isSome) = true := by rfl) (hks : (backToKw pos' (keywordEach kws X.env)).filterMap (·.1) = ks := by rfl) (he1 : starEach (e :: es) X.env = (false, eval e X.env) :: starEach es X.env := by rfl)
    (hpl : ((backTo pos' (starEach (e :: es) X.env)).any (·.1) || (backToKw pos' (keywordEach kws X.env)).any (·.1.isNone)) = false := by rfl) (hkk : ks.length = kk := by rfl)
    (he : starEach [.Call (.Name x p') (e :: es) kws pos'] X.env = (false, eval (.Call (.Name x p') (e :: es) kws pos') X.env) :: starEach [] X.env := by rfl) :
    DO X g E (.Call (.Name "list" p) [.Call (.Name x p') (e :: es) kws pos'] [] pos) (oGenK n kk mo fs fk) := by
  subst hkk
  obtain ⟨f, fd, ps, F, hmx, hk, hb⟩ := M.ex
  obtain ⟨ta, pa, ra⟩ := ha.run
  obtain ⟨tk, pk, rk⟩ := hkw.run
  refine ⟨_, pe_listG (E := E0) (pgen_callK F (hr.mono (by omega)) hgx hmx hk hb pa pk hall hks hdb he1 hpl) passL (fun _ _ _ z => z.elim) hr hg hm (by decide +kernel) (he := he), fun σ H Q F1 S w R h => ?_⟩
  refine ra σ H _ F1 S w R (PostG.imp (PostG.bind h) fun ds1 w1 _ h1 vs H1 F2 x1 r1 => ?_)
  refine rk σ H1 _ F2 S w1 (R.ext x1) (PostG.ext x1 (PostG.bind h1) fun ds2 w2 h2 zs H2 F3 x2 r2 => ?_)
  by_cases hn : ds1.length = n ∧ ds2.length = ks.length
  · rw [if_pos hn] at h2
    refine ⟨by rw [r1.length]; exact hn.1, by rw [r2.length]; exact hn.2, ?_⟩
    rw [← hK]
    exact mo_run (w := w2) (x1.trans x2) ((r1.mono x2.ff).append r2) (by rw [List.length_append, hn.1, hn.2]) h2
  · rw [if_neg hn] at h2; exact h2.elim
theorem pgenF_callK {kk : Nat} (hK : g.K = X.K) (M : CalGFK X.prog X.w X.K X.mg X.base g.cls x k n ks mo) (hr : Room k X.A) (ha : DA X g (kE E0) (e :: es) fs) (hkw : DKw X g (kE E0) kws fk) (hg : Gl X x := by rfl) (hdb : (x == ("__debug__" : Str)) = false := by decide)
    (hall : (backToKw pos (keywordEach kws X.env)).all (·.1.isSome) = true := by rfl) (hks : (backToKw pos (keywordEach kws X.env)).filterMap (·.1) = ks := by rfl) (he : starEach (e :: es) X.env = (false, eval e X.env) :: starEach es X.env := by rfl)
    (hpl : ((backTo pos (starEach (e :: es) X.env)).any (·.1) || (backToKw pos (keywordEach kws X.env)).any (·.1.isNone)) = false := by rfl) (hkk : ks.length = kk := by rfl) :
    PGenF X g k (.Call (.Name x p) (e :: es) kws pos) (oGenK n kk mo fs fk) := by
  subst hkk
  obtain ⟨K', cls, bq⟩ := g
  obtain rfl : K' = X.K := hK
  refine ⟨fun pins s σ H F S w out w1 I Rl hfi q vs hq nF nb => ?_⟩
  obtain ⟨f, fd, ps, GF, hps, hm, hk, hb⟩ := M.ex
  obtain ⟨ta, pa, ra⟩ := ha.run
  obtain ⟨tk, pk, rk⟩ := hkw.run
  unfold oGenK at hfi
  cases hfs : fs S w with
  | err c l w2 => rw [hfs] at hfi; cases hfi
  | bad => rw [hfs] at hfi; cases hfi
  | ok ds w2 =>
  rw [hfs, R.bind_ok] at hfi
  cases hfk : fk S w2 with
  | err c l w3 => rw [hfk] at hfi; cases hfi
  | bad => rw [hfk] at hfi; cases hfi
  | ok ds2 w3 =>
  rw [hfk, R.bind_ok] at hfi
  by_cases hn : ds.length = n ∧ ds2.length = ks.length
  case neg => rw [if_neg hn] at hfi; cases hfi
  rw [if_pos hn] at hfi
  have hmo : mo (ds ++ ds2) w3 = .ok out w1 := by
    cases z : mo (ds ++ ds2) w3 with
    | ok a b => rw [z] at hfi; exact hfi
    | err c l w4 => rw [z] at hfi; cases hfi
    | bad => rw [z] at hfi; cases hfi
  refine wpAny_Call_Name_kw (ld_glob I hg hm ?_ hdb)
  refine PySem.W.callWith_KW (h₀ := X.base) I.ok.mod.kin hk hall (thn (pa.run pos pins s σ H (fun us H1 => ∃ F1, Ext ⟨X.K, cls, bq⟩ F H F1 H1 w2 ∧ DRs ⟨X.K, cls, bq⟩ F1 us ds) I (ra σ H _ F S w Rl (by rw [hfs]; exact fun v H' F' x r => ⟨F', x, r⟩))) fun us s1 ⟨vs1, H1, I1, r, F1, x1, r1⟩ => ?_) hpl he
  refine thn (pk.run pos pins s1 σ H1 (fun us H2 => ∃ F2, Ext ⟨X.K, cls, bq⟩ F1 H1 F2 H2 w3 ∧ DRs ⟨X.K, cls, bq⟩ F2 us ds2) I1 (rk σ H1 _ F1 S w2 (Rl.ext x1) (by rw [hfk]; exact fun v H' F' x r => ⟨F', x, r⟩))) fun ws s2 ⟨zs, H2, I2, rz, F2, x2, r2⟩ => ⟨I2.kIn, ?_⟩
  rw [hks]
  have x12 := x1.trans x2
  have hq1 : H2 q = some (.lst vs) := x12.hh q _ nb nF.2 (fun ps z => by cases z) hq
  have nF1 : F2.free q := x12.free nF hq
  have l1 : vs1.length = n := by rw [r1.length]; exact hn.1
  have l2 : zs.length = ks.length := by rw [r2.length]; exact hn.2
  refine wpAny_call (codeAny_mono (GF.run X.A X.stack s2 (rem H2 q) ⟨us, ks.zip ws⟩ (us ++ ws) (vs1 ++ zs) bq F2 (ds ++ ds2) w3 out w1 hr (env0_rem I2.env0 hq1) (hb.to s2 us ws I2.kIn (r.length.symm.trans l1) (rz.length.symm.trans l2)) (hb.rel r rz) (by rw [List.length_append, l1, l2, hps]) (same_rem x12.sub nF1) (bx_rem x12.bx hq1 nF1 nb) ((r1.mono x2.ff).append r2) hmo) fun r s' hq => ?_)
  cases r with
  | error e => exact False.elim hq
  | ok fl =>
    cases fl with
    | ret u => exact ⟨s2, H2, F2, w3, I2, x12, hq⟩
    | next => exact False.elim hq
    | brk => exact False.elim hq
    | cont => exact False.elim hq
end
section
variable {X : Cx} {g : G} {E : EK} {a b : Expr} {p apos : Pos} {fa fb : EM}
theorem de_index2 (hK : g.K = X.K) (hu : X.A.units + 65 < cLine) (ha : DE X g E a fa) (hb : DE X g E b fb)
    (hq : ∀ (to te : TE), X.A.units + 65 < cLine → PE X a to → PE X b te → PE X (.Call (.Attribute a "index" apos) [b] [] p) (tBM X.K "list" (rIndexD X.K) to (tCons te tNil)) := by exact fun _ _ hu h1 h2 => pe_bm PySem.F.plainAttrs_list PySem.F.slot_list_index PySem.F.type_list_index (mt_indexD hu) h1 (pa_cons h2 pa_nil)) :
    DE X g E (.Call (.Attribute a "index" apos) [b] [] p) (eIxL fa fb) := de_index hK hu ha hb fun to te h1 h2 => hq to te hu h1 h2
end
end Y
namespace Z
open PySem PySem.Spec PyProof.Rows L2 Y
theorem sc_L_open : FnScope ["_law_script", "_law_cells", "_law_mark", "_law_cell"] ["_law_script"] (defScope s_L_open) := ⟨rfl, rfl, rfl, by decide +kernel, rfl, by decide +kernel, by decide +kernel⟩
theorem sc_precedes : FnScope ["one", "other"] ["one", "other"] (defScope s_precedes) := ⟨rfl, rfl, rfl, by decide +kernel, rfl, by decide +kernel, by decide +kernel⟩
theorem sc_following : FnScope ["row", "kept"] ["row"] (defScope s_following) := ⟨rfl, rfl, rfl, by decide +kernel, rfl, by decide +kernel, by decide +kernel⟩
theorem sc_rows_to : GScope ["length", "start", "row"] ["length", "start"] (defScope s_rows_to) := ⟨rfl, rfl, rfl, by decide +kernel, rfl, by decide +kernel, by decide +kernel⟩
theorem sc_L_draw : FnScope ["_law_box", "_law_many", "_law_cell", "_law_found"] ["_law_box", "_law_many"] (defScope s_L_draw) := ⟨rfl, rfl, rfl, by decide +kernel, rfl, by decide +kernel, by decide +kernel⟩
theorem sc_L_whole : FnScope ["_law_found"] ["_law_found"] (defScope s_L_whole) := ⟨rfl, rfl, rfl, by decide +kernel, rfl, by decide +kernel, by decide +kernel⟩
theorem sc_L_same : FnScope ["_law_found", "_law_due", "_law_one", "_law_other"] ["_law_found", "_law_due"] (defScope s_L_same) := ⟨rfl, rfl, rfl, by decide +kernel, rfl, by decide +kernel, by decide +kernel⟩
theorem sc_L_row : FnScope ["_law_box", "_law_most", "_law_lean", "_law_size", "_law_k"] ["_law_box", "_law_most"] (defScope s_L_row) := ⟨rfl, rfl, rfl, by decide +kernel, rfl, by decide +kernel, by decide +kernel⟩
theorem sc_L_longer : FnScope ["_law_rows", "_law_found", "_law_row_here"] ["_law_rows"] (defScope s_L_longer) := ⟨rfl, rfl, rfl, by decide +kernel, rfl, by decide +kernel, by decide +kernel⟩
theorem sc_L_all_rows : FnScope ["_law_length", "_law_layer", "_law_found", "_law_k"] ["_law_length"] (defScope s_L_all_rows) := ⟨rfl, rfl, rfl, by decide +kernel, rfl, by decide +kernel, by decide +kernel⟩
theorem sc_law : FnScope ["_law_script", "_law_box", "_law_turn", "_law_late", "_law_most", "_law_rows", "_law_begin", "_law_due", "_law_found", "_law_row_here", "_law_one", "_law_other", "_law_first"] ["_law_script"] (defScope s_law) := ⟨rfl, rfl, rfl, by decide +kernel, rfl, by decide +kernel, by decide +kernel⟩
structure Top (P : Program) (w : World) (K : PySem.W.Frag) (mg : Str → Option Value) (base : Heap) (tb : List (Addr × Str)) : Prop where
  n_all : mg "all" = none
  n_bool : mg "bool" = none
  n_int : mg "int" = none
  n_isinstance : mg "isinstance" = none
  n_len : mg "len" = none
  n_list : mg "list" = none
  n_range : mg "range" = none
  n_str : mg "str" = none
  n_tuple : mg "tuple" = none
  n_zip : mg "zip" = none
  d_L_open : Def K mg "_law_open" s_L_open ["_law_script"]
  d_precedes : Def K mg "precedes" s_precedes ["one", "other"]
  d_following : Def K mg "following" s_following ["row"]
  dg_rows_to : DefD K mg "rows_to" s_rows_to [] [("start", .str "")]
  d_L_draw : Def K mg "_law_draw" s_L_draw ["_law_box", "_law_many"]
  d_L_whole : Def K mg "_law_whole" s_L_whole ["_law_found"]
  d_L_same : Def K mg "_law_same" s_L_same ["_law_found", "_law_due"]
  d_L_row : Def K mg "_law_row" s_L_row ["_law_box", "_law_most"]
  d_L_longer : Def K mg "_law_longer" s_L_longer ["_law_rows"]
  d_L_all_rows : Def K mg "_law_all_rows" s_L_all_rows ["_law_length"]
  d_law : Def K mg "law" s_law ["_law_script"]
def g_precedes : SM := (sRet (eBin mLtP (eTup (aCons (eB mLen (aCons (eVar 0) aNil)) (aCons (eVar 0) aNil))) (eTup (aCons (eB mLen (aCons (eVar 1) aNil)) (aCons (eVar 1) aNil)))))
def m_precedes : List D → Bx → R D := runF 2 2 g_precedes

theorem precedes_ok (x y : List Nat) (hx : x.length ≤ 9000) (hy : y.length ≤ 9000) (w : Bx) : ∃ b : Bool, m_precedes [.str (tx x), .str (tx y)] w = .ok (.bl b) w ∧ (b = true ↔ lt2 x y) :=
  ⟨ltP (x.length : Int) (y.length : Int) (tx x) (tx y), x_run rfl (x_ret (p_bin (x_tup (p_cons (x_B (p_cons rfl x_nil) (len_tx (by omega))) (p_cons rfl x_nil)) (lsz rfl)) (x_tup (p_cons (x_B (p_cons rfl x_nil) (len_tx (by omega))) (p_cons rfl x_nil)) (lsz rfl)) rfl)), ltP_iff x y⟩

def g_following : SM := (sSeq (sSet 1 (eM1 mRstrip (eVar 0) (eC (.str "b"))))
    (sSeq (sIf (tOf (eBin mEq (eVar 1) (eC (.str "")))) (sRet (eBin mMul (eC (.str "a")) (eBin mAdd (eB mLen (aCons (eVar 0) aNil)) (eC (.int 1))))) sNil)
    (sRet (eBin mAdd (eBin mAdd (eSl (eVar 1) pNone (pSome (e1 mNeg (eC (.int 1))))) (eC (.str "b"))) (eBin mMul (eC (.str "a")) (eBin mSub (eB mLen (aCons (eVar 0) aNil)) (eB mLen (aCons (eVar 1) aNil))))))))
def m_following : List D → Bx → R D := runF 1 2 g_following

def g_rows_to : SG := (gSq (gPl (sSet 2 (eVar 1)))
    (gSq (gWhile (fun _ => 1100) (tOf (eBin (mI fun i j => decide (i ≤ j)) (eB mLen (aCons (eVar 2) aNil)) (eVar 0))) (gSq (gYield (eVar 2))
    (gSq (gPl (sSet 2 (eCall 1 m_following (aCons (eVar 2) aNil))))
    gNil)))
    gNil))
def mG_rows_to : List D → Bx → R (List D) := runG 2 3 g_rows_to

def g_L_draw : SM := (sSeq (sIf (tAndM (tOf (eBin mEq (eBx 0 2) (eC (.int 0)))) (tOf (eBin mLt (eBx 0 1) (eB mLen (aCons (eBx 0 0) aNil))))) (sSeq (sSet 2 (eBin mIx (eBx 0 0) (eBx 0 1)))
    (sSeq (sBx 0 1 (eBin mAdd (eBx 0 1) (eC (.int 1))))
    (sIf (tOf (eBin (mI fun i j => decide (j ≤ i)) (eVar 2) (eBin mPow (eC (.int 10)) (eC (.int 18))))) (sBx 0 2 (eVar 2)) (sBx 0 3 (eBin mMod (eBin mAdd (eBin mAdd (eBin mMul (eBx 0 3) (eC (.int 69621))) (eBin mMod (eVar 2) (eC (.int 2147483563)))) (eBin mMul (eBx 0 1) (eC (.int 1597)))) (eC (.int 2147483647))))))) sNil)
    (sSeq (sIf (tOf (eBin (mI fun i j => decide (j < i)) (eBx 0 2) (eC (.int 0)))) (sSeq (sSet 3 (eBin mMod (eBx 0 2) (eVar 1)))
    (sSeq (sBx 0 2 (eBin mDiv (eBx 0 2) (eVar 1)))
    (sRet (eVar 3)))) sNil)
    (sSeq (sBx 0 3 (eBin mMod (eBin mAdd (eBin mMul (eBx 0 3) (eC (.int 48271))) (eC (.int 11))) (eC (.int 2147483647))))
    (sRet (eBin mMod (eBin mDiv (eBin mMod (eBin mMul (eBx 0 3) (eBx 0 3)) (eC (.int 998244353))) (eC (.int 13))) (eVar 1))))))
def m_L_draw : List D → Bx → R D := runF 2 4 g_L_draw

theorem pow18 : ∃ c : Int, mPow (.int 10) (.int 18) = some (.int c) ∧ 0 ≤ c := by
  refine ⟨(10 : Int) ^ (18 : Int).toNat, ?_, by decide⟩
  have e : mPow (.int 10) (.int 18) = if (0 : Int) ≤ 18 ∧ (18 : Int) ≤ 1000000 ∧ (10 : Int).natAbs < 2 ^ 64 then some (.int ((10 : Int) ^ (18 : Int).toNat)) else none := rfl
  rw [e, if_pos ⟨by decide, by decide, by decide⟩]
def drawTail : SM := (sSeq (sIf (tOf (eBin (mI fun i j => decide (j < i)) (eBx 0 2) (eC (.int 0)))) (sSeq (sSet 3 (eBin mMod (eBx 0 2) (eVar 1)))
    (sSeq (sBx 0 2 (eBin mDiv (eBx 0 2) (eVar 1)))
    (sRet (eVar 3)))) sNil)
    (sSeq (sBx 0 3 (eBin mMod (eBin mAdd (eBin mMul (eBx 0 3) (eC (.int 48271))) (eC (.int 11))) (eC (.int 2147483647))))
    (sRet (eBin mMod (eBin mDiv (eBin mMod (eBin mMul (eBx 0 3) (eBx 0 3)) (eC (.int 998244353))) (eC (.int 13))) (eVar 1)))))
theorem draw_tail (n : Int) (h0 : 0 < n) (h1 : n < 1073741824) (x : Option SV) (w : Bx) : ∃ r w', drawTail [some (.dat .box), some (.dat (.int n)), x, none] w = .rt (.int r) w' ∧ 0 ≤ r ∧ r < n := by
  by_cases hb : 0 < w.big
  · refine ⟨w.big % n, { w with big := w.big / n }, ?_, Int.emod_nonneg _ (by omega), Int.emod_lt_of_pos _ h0⟩
    have hd : 0 ≤ w.big / n := Int.ediv_nonneg (by omega) (by omega)
    simp [drawTail, sSeq, sIf, sSet, sBx, sRet, tOf, eBin, eBx, eVar, eC, mMod, mDiv, mI, isBox, bxGet, bxPut, hb, h0, h1, hd]
  · have hm0 : 0 ≤ (w.mark * 48271 + 11) % 2147483647 := Int.emod_nonneg _ (by decide)
    have hm1 : (w.mark * 48271 + 11) % 2147483647 < 2147483647 := Int.emod_lt_of_pos _ (by decide)
    refine ⟨((w.mark * 48271 + 11) % 2147483647) * ((w.mark * 48271 + 11) % 2147483647) % 998244353 / 13 % n, { w with mark := (w.mark * 48271 + 11) % 2147483647 }, ?_, Int.emod_nonneg _ (by omega), Int.emod_lt_of_pos _ h0⟩
    · have e1 : (-18446744073709551616 < (w.mark * 48271 + 11) % 2147483647) := by omega
      have e2 : ((w.mark * 48271 + 11) % 2147483647 < 18446744073709551616) := by omega
      simp [drawTail, sSeq, sIf, sSet, sBx, sRet, sNil, tOf, eBin, eBx, eVar, eC, mMod, mDiv, mAdd, mMul, mI, isBox, bxGet, bxPut, hb, h0, hm0, hm1, e1, e2]
theorem draw_ok (w : Bx) (n : Int) (h0 : 0 < n) (h1 : n < 1073741824) : ∃ r w', m_L_draw [.box, .int n] w = .ok (.int r) w' ∧ 0 ≤ r ∧ r < n := by
  obtain ⟨c, p18, c0⟩ := pow18
  have e2 : eBx 0 2 [some (.dat .box), some (.dat (.int n)), none, none] w = .ok (.int w.big) w := rfl
  have e1 : eBx 0 1 [some (.dat .box), some (.dat (.int n)), none, none] w = .ok (.int (w.ix : Int)) w := rfl
  have e0 : eBx 0 0 [some (.dat .box), some (.dat (.int n)), none, none] w = .ok (.lst (w.cells.map D.int)) w := rfl
  have hlen : mLen [.lst (w.cells.map D.int)] = some (.int (w.cells.length : Int)) := by simp [mLen]
  have fin : ∀ (x : Option SV) (w1 : Bx), g_L_draw [some (.dat .box), some (.dat (.int n)), none, none] w = drawTail [some (.dat .box), some (.dat (.int n)), x, none] w1 → ∃ r w', m_L_draw [.box, .int n] w = .ok (.int r) w' ∧ 0 ≤ r ∧ r < n := fun x w1 e => by
    obtain ⟨r, w2, e2, h⟩ := draw_tail n h0 h1 x w1
    exact ⟨r, w2, x_run rfl (e.trans e2), h⟩
  by_cases h2 : w.big = 0
  · have t1 : tOf (eBin mEq (eBx 0 2) (eC (.int 0))) [some (.dat .box), some (.dat (.int n)), none, none] w = .ok true w := by
      refine x_tOf (x_bin e2 rfl ?_)
      simp [mEq, eqB, h2]
    by_cases h3 : w.ix < w.cells.length
    · have t2 : tOf (eBin mLt (eBx 0 1) (eB mLen (aCons (eBx 0 0) aNil))) [some (.dat .box), some (.dat (.int n)), none, none] w = .ok true w := by
        refine x_tOf (x_bin e1 (x_B (x_cons e0 x_nil) hlen) ?_)
        simp [mLt, h3]
      have hg : mIx (.lst (w.cells.map D.int)) (.int (w.ix : Int)) = some (.int w.cells[w.ix]) := atI_nat (by rw [List.getElem?_map, List.getElem?_eq_getElem h3]; rfl)
      have s1 : sSet 2 (eBin mIx (eBx 0 0) (eBx 0 1)) [some (.dat .box), some (.dat (.int n)), none, none] w = .nx [some (.dat .box), some (.dat (.int n)), some (.dat (.int w.cells[w.ix])), none] w := x_set (x_bin e0 e1 hg)
      have s2 : sBx 0 1 (eBin mAdd (eBx 0 1) (eC (.int 1))) [some (.dat .box), some (.dat (.int n)), some (.dat (.int w.cells[w.ix])), none] w = .nx [some (.dat .box), some (.dat (.int n)), some (.dat (.int w.cells[w.ix])), none] { w with ix := w.ix + 1 } := by
        refine x_sbx (x_bin (d := .int (w.ix : Int)) (e := .int 1) (z := .int ((w.ix : Int) + 1)) rfl rfl rfl) rfl ?_
        have q : (((w.ix : Int) + 1).toNat) = w.ix + 1 := by omega
        have q0 : 0 ≤ (w.ix : Int) + 1 := by omega
        simp [bxPut, q, q0]
      by_cases h4 : c ≤ w.cells[w.ix]
      · refine fin (some (.dat (.int w.cells[w.ix]))) { w with ix := w.ix + 1, big := w.cells[w.ix] } ?_
        refine x_seq (x_ifT (x_andT t1 t2) (x_seq s1 (x_seq s2 (x_ifT (x_tOf (x_bin rfl (x_bin rfl rfl p18) ?_)) (x_sbx rfl rfl ?_))))) rfl
        · simp [mI, h4]
        · have h5 : 0 ≤ w.cells[w.ix] := by omega
          simp [bxPut, h5]
      · refine fin (some (.dat (.int w.cells[w.ix]))) { w with ix := w.ix + 1, mark := (w.mark * 69621 + w.cells[w.ix] % 2147483563 + ((w.ix : Int) + 1) * 1597) % 2147483647 } ?_
        refine x_seq (x_ifT (x_andT t1 t2) (x_seq s1 (x_seq s2 (x_ifF (x_tOf (x_bin rfl (x_bin rfl rfl p18) ?_)) (x_sbx (x_bin (x_bin (x_bin (x_bin (d := .int w.mark) (e := .int 69621) rfl rfl (z := .int (w.mark * 69621)) ?_) (x_bin (d := .int w.cells[w.ix]) (e := .int 2147483563) rfl rfl (z := .int (w.cells[w.ix] % 2147483563)) ?_) (z := .int (w.mark * 69621 + w.cells[w.ix] % 2147483563)) rfl) (x_bin (d := .int ((w.ix : Int) + 1)) (e := .int 1597) rfl rfl (z := .int (((w.ix : Int) + 1) * 1597)) ?_) (z := .int (w.mark * 69621 + w.cells[w.ix] % 2147483563 + ((w.ix : Int) + 1) * 1597)) rfl) (e := .int 2147483647) (z := .int ((w.mark * 69621 + w.cells[w.ix] % 2147483563 + ((w.ix : Int) + 1) * 1597) % 2147483647)) rfl ?_) rfl ?_))))) rfl
        · simp [mI, h4]
        · simp [mMul]
        · simp [mMod]
        · simp [mMul]
        · simp [mMod]
        · have hm0 : 0 ≤ (w.mark * 69621 + w.cells[w.ix] % 2147483563 + ((w.ix : Int) + 1) * 1597) % 2147483647 := Int.emod_nonneg _ (by decide)
          have hm1 : (w.mark * 69621 + w.cells[w.ix] % 2147483563 + ((w.ix : Int) + 1) * 1597) % 2147483647 < 2147483647 := Int.emod_lt_of_pos _ (by decide)
          simp [bxPut, hm0, hm1]
    · have t2 : tOf (eBin mLt (eBx 0 1) (eB mLen (aCons (eBx 0 0) aNil))) [some (.dat .box), some (.dat (.int n)), none, none] w = .ok false w := by
        refine x_tOf (x_bin e1 (x_B (x_cons e0 x_nil) hlen) ?_)
        simp [mLt, h3]
      exact fin none w (x_seq (x_ifF (x_andT t1 t2) rfl) rfl)
  · have t1 : tOf (eBin mEq (eBx 0 2) (eC (.int 0))) [some (.dat .box), some (.dat (.int n)), none, none] w = .ok false w := by
      refine x_tOf (x_bin e2 rfl ?_)
      simp [mEq, eqB, h2]
    exact fin none w (x_seq (x_ifF (x_andF t1) rfl) rfl)

def g_L_whole : SM := (sRet (eAndM (e1 (mIsi "int") (eVar 0)) (eNotM (e1 (mIsi "bool") (eVar 0)))))
def m_L_whole : List D → Bx → R D := runF 1 1 g_L_whole

def g_L_same (mr : List D → Bx → R D) : SM := (sSeq (sIf (tOf (eBin mIs (eVar 1) (eC .non))) (sRet (eBin mIs (eVar 0) (eC .non))) sNil)
    (sSeq (sIf (tOf (e1 (mIsi "bool") (eVar 1))) (sRet (eAndM (e1 (mIsi "bool") (eVar 0)) (eBin mEq (eVar 0) (eVar 1)))) sNil)
    (sSeq (sIf (tOf (e1 (mIsi "int") (eVar 1))) (sRet (eAndM (eCall 1 m_L_whole (aCons (eVar 0) aNil)) (eBin mEq (eVar 0) (eVar 1)))) sNil)
    (sSeq (sIf (tOf (e1 (mIsi "str") (eVar 1))) (sRet (eAndM (e1 (mIsi "str") (eVar 0)) (eBin mEq (eVar 0) (eVar 1)))) sNil)
    (sSeq (sIf (tAndM (tOf (e1 (mIsi "tuple") (eVar 1))) (tNotM (tOf (e1 (mIsi "tuple") (eVar 0))))) (sRet (eC (.bl false))) sNil)
    (sSeq (sIf (tAndM (tOf (e1 (mIsi "list") (eVar 1))) (tNotM (tOf (e1 (mIsi "list") (eVar 0))))) (sRet (eC (.bl false))) sNil)
    (sRet (eAndM (eBin mEq (eB mLen (aCons (eVar 0) aNil)) (eB mLen (aCons (eVar 1) aNil))) (eB mAll (aCons (eFrz (oLc (iBy zipOf (aCons (eVar 0) (aCons (eVar 1) aNil))) (gTupM (gsCons (gSet 2) (gsCons (gSet 3) gsNil))) tYesM (eCall 2 mr (aCons (eVar 2) (aCons (eVar 3) aNil))) [2, 3])) aNil))))))))))

theorem mSame_zero (ds : List D) (w : Bx) : mSame 0 ds w = .bad := by
  unfold mSame
  split
  · simp [sameD]
  · rfl
theorem all_true (n : Nat) : blsOf (List.replicate n (D.bl true)) = some (List.replicate n true) := by
  induction n with
  | zero => rfl
  | succ n ih => rw [List.replicate_succ, blsOf, ih]; rfl
theorem all_reps (n : Nat) : (List.replicate n true).all id = true := by
  induction n with
  | zero => rfl
  | succ n ih => rw [List.replicate_succ, List.all_cons, ih]; rfl
theorem zip_same (k : Nat) (S : SL) (hS : S.length = 4) (w : Bx) : ∀ (a b : List D), ((a.zip b).all fun p => sameD k p.1 p.2) = true →
    lcLoop (gTupM (gsCons (gSet 2) (gsCons (gSet 3) gsNil))) tYesM (eCall 2 (mSame k) (aCons (eVar 2) (aCons (eVar 3) aNil))) S (zipD a b) w = .ok (List.replicate (a.zip b).length (.bl true)) w
  | [], _, _ => rfl
  | _ :: _, [], _ => rfl
  | x :: a, y :: b, h => by
    rw [List.zip_cons_cons, List.all_cons, Bool.and_eq_true] at h
    have ih := zip_same k S hS w a b h.2
    obtain ⟨s0, s1, s2, s3, rfl⟩ : ∃ s0 s1 s2 s3, S = [s0, s1, s2, s3] := by
      match S, hS with
      | [s0, s1, s2, s3], _ => exact ⟨s0, s1, s2, s3, rfl⟩
    refine x_lcC (e := .bl true) (w2 := w) rfl rfl ?_ ih
    refine x_call (x_cons rfl (x_cons rfl x_nil)) rfl ?_
    show (if sameD k x y then R.ok (D.bl true) w else .bad) = _
    rw [if_pos h.1]
theorem same_ok (k : Nat) : ∀ ds w, mSame (k + 1) ds w ≠ .bad → runF 2 4 (g_L_same (mSame k)) ds w = mSame (k + 1) ds w := by
  intro ds w h
  match ds, h with
  | [d, e], h =>
    have hs : sameD (k + 1) d e = true := by
      cases hq : sameD (k + 1) d e with
      | true => rfl
      | false =>
        have : mSame (k + 1) [d, e] w = .bad := by show (if sameD (k + 1) d e then R.ok (D.bl true) w else .bad) = _; rw [hq]; rfl
        exact absurd this h
    have hr : mSame (k + 1) [d, e] w = .ok (.bl true) w := by show (if sameD (k + 1) d e then R.ok (D.bl true) w else .bad) = _; rw [if_pos hs]
    rw [hr]
    cases d <;> cases e <;> first | (exact absurd (show false = true from hs) Bool.false_ne_true) | skip
    case non.non => exact x_run rfl (x_seqR (x_ifT (x_tOf (x_bin rfl rfl rfl)) (x_ret (x_bin rfl rfl rfl))))
    case bl.bl a b =>
      have e : a = b := eq_of_beq hs
      subst e
      refine x_run rfl (x_seq (x_ifF (x_tOf (x_bin rfl rfl rfl)) rfl) (x_seqR (x_ifT (x_tOf (x_e1 rfl rfl)) (x_ret (x_eandT (x_e1 rfl rfl) (x_bin rfl rfl ?_))))))
      simp [mEq, eqB]
    case int.int a b =>
      have e : a = b := eq_of_beq hs
      subst e
      refine x_run rfl (x_seq (x_ifF (x_tOf (x_bin rfl rfl rfl)) rfl) (x_seq (x_ifF (x_tOf (x_e1 rfl rfl)) rfl) (x_seqR (x_ifT (x_tOf (x_e1 rfl rfl)) (x_ret (x_eandT (x_call (x_cons rfl x_nil) rfl (r := .ok (.bl true) w) ?_) (x_bin rfl rfl ?_)))))))
      · exact x_run rfl (x_ret (x_eandT (x_e1 rfl rfl) (x_enotF (x_e1 rfl rfl))))
      · simp [mEq, eqB]
    case str.str a b =>
      have e : a = b := eq_of_beq hs
      subst e
      refine x_run rfl (x_seq (x_ifF (x_tOf (x_bin rfl rfl rfl)) rfl) (x_seq (x_ifF (x_tOf (x_e1 rfl rfl)) rfl) (x_seq (x_ifF (x_tOf (x_e1 rfl rfl)) rfl) (x_seqR (x_ifT (x_tOf (x_e1 rfl rfl)) (x_ret (x_eandT (x_e1 rfl rfl) (x_bin rfl rfl ?_))))))))
      simp [mEq, eqB]
    case lst.lst a b =>
      have h2 : ((a.length == b.length && decide (a.length ≤ sizeN)) && (a.zip b).all fun p => sameD k p.1 p.2) = true := hs
      rw [Bool.and_eq_true, Bool.and_eq_true] at h2
      have hl : a.length = b.length := eq_of_beq h2.1.1
      have hz : a.length ≤ sizeN := of_decide_eq_true h2.1.2
      refine x_run rfl (x_seq (x_ifF (x_tOf (x_bin rfl rfl rfl)) rfl) (x_seq (x_ifF (x_tOf (x_e1 rfl rfl)) rfl) (x_seq (x_ifF (x_tOf (x_e1 rfl rfl)) rfl) (x_seq (x_ifF (x_tOf (x_e1 rfl rfl)) rfl) (x_seq (x_ifF (x_andF (x_tOf (x_e1 rfl rfl))) rfl) (x_seq (x_ifF (x_andT (x_tOf (x_e1 rfl rfl)) (x_notT (x_tOf (x_e1 rfl rfl)))) rfl) (x_ret (x_eandT (x_bin (x_B (x_cons rfl x_nil) rfl) (x_B (x_cons rfl x_nil) rfl) ?_) (x_B (x_cons (x_frz (x_lc (x_by (x_cons rfl (x_cons rfl x_nil)) rfl) ?_ (zip_same k _ rfl w a b h2.2))) x_nil) ?_)))))))))
      · simp [mEq, eqB, hl]
      · simp only [zipD, List.length_map, List.length_zip]; omega
      · show (blsOf _).map _ = _
        rw [all_true]
        simp [all_reps]
    case tup.tup a b =>
      have h2 : ((a.length == b.length && decide (a.length ≤ sizeN)) && (a.zip b).all fun p => sameD k p.1 p.2) = true := hs
      rw [Bool.and_eq_true, Bool.and_eq_true] at h2
      have hl : a.length = b.length := eq_of_beq h2.1.1
      have hz : a.length ≤ sizeN := of_decide_eq_true h2.1.2
      refine x_run rfl (x_seq (x_ifF (x_tOf (x_bin rfl rfl rfl)) rfl) (x_seq (x_ifF (x_tOf (x_e1 rfl rfl)) rfl) (x_seq (x_ifF (x_tOf (x_e1 rfl rfl)) rfl) (x_seq (x_ifF (x_tOf (x_e1 rfl rfl)) rfl) (x_seq (x_ifF (x_andT (x_tOf (x_e1 rfl rfl)) (x_notT (x_tOf (x_e1 rfl rfl)))) rfl) (x_seq (x_ifF (x_andF (x_tOf (x_e1 rfl rfl))) rfl) (x_ret (x_eandT (x_bin (x_B (x_cons rfl x_nil) rfl) (x_B (x_cons rfl x_nil) rfl) ?_) (x_B (x_cons (x_frz (x_lc (x_by (x_cons rfl (x_cons rfl x_nil)) rfl) ?_ (zip_same k _ rfl w a b h2.2))) x_nil) ?_)))))))))
      · simp [mEq, eqB, hl]
      · simp only [zipD, List.length_map, List.length_zip]; omega
      · show (blsOf _).map _ = _
        rw [all_true]
        simp [all_reps]
  | [], h => exact absurd rfl h
  | [_], h => exact absurd rfl h
  | _ :: _ :: _ :: _, h => exact absurd rfl h

def g_L_row : SM := (sSeq (sSet 2 (eCall 2 m_L_draw (aCons (eVar 0) (aCons (eC (.int 8)) aNil))))
    (sSeq (sSet 3 (eCall 2 m_L_draw (aCons (eVar 0) (aCons (eBin mAdd (eVar 1) (eC (.int 1))) aNil))))
    (sSeq (sIf (tOf (eBin mLt (eVar 2) (eC (.int 2)))) (sRet (eBin mMul (eBin mIx (eC (.str "ab")) (eVar 2)) (eVar 3))) sNil)
    (sRet (eM1 mJoin (eC (.str "")) (eFrz (oLc (iBy rngOf (aCons (eVar 3) aNil)) (gSet 4) tYesM (eBin mIx (eC (.str "ab")) (eCall 2 m_L_draw (aCons (eVar 0) (aCons (eC (.int 2)) aNil)))) [4])))))))
def m_L_row : List D → Bx → R D := runF 2 5 g_L_row

theorem ab_at (r : Int) (h0 : 0 ≤ r) (h1 : r < 2) : ∃ c, (c = 97 ∨ c = 98) ∧ mIx (.str "ab") (.int r) = some (.str (tx [c])) := by
  rw [lit_ab]
  have h : r = 0 ∨ r = 1 := by omega
  rcases h with rfl | rfl
  · exact ⟨97, .inl rfl, rfl⟩
  · exact ⟨98, .inr rfl, rfl⟩
theorem row_ok (w : Bx) (n : Nat) (hn : n ≤ 10000) : ∃ l w', m_L_row [.box, .int (n : Int)] w = .ok (.str (tx l)) w' ∧ l.length ≤ n ∧ ∀ c ∈ l, c = 97 ∨ c = 98 := by
  obtain ⟨r, w1, e1, r0, r1⟩ := draw_ok w 8 (by decide) (by decide)
  obtain ⟨q, w2, e2, q0, q1⟩ := draw_ok w1 ((n : Int) + 1) (by omega) (by omega)
  have s1 : sSet 2 (eCall 2 m_L_draw (aCons (eVar 0) (aCons (eC (.int 8)) aNil))) (startS 5 [.box, .int (n : Int)]) w = .nx [some (.dat .box), some (.dat (.int (n : Int))), some (.dat (.int r)), none, none] w1 := x_set (x_call (x_cons rfl (x_cons rfl x_nil)) rfl e1)
  have s2 : sSet 3 (eCall 2 m_L_draw (aCons (eVar 0) (aCons (eBin mAdd (eVar 1) (eC (.int 1))) aNil))) [some (.dat .box), some (.dat (.int (n : Int))), some (.dat (.int r)), none, none] w1 = .nx [some (.dat .box), some (.dat (.int (n : Int))), some (.dat (.int r)), some (.dat (.int q)), none] w2 := x_set (x_call (x_cons rfl (x_cons (x_bin rfl rfl rfl) x_nil)) rfl e2)
  by_cases hr : r < 2
  · obtain ⟨c, hc, hx⟩ := ab_at r r0 hr
    refine ⟨List.replicate q.toNat c, w2, x_run rfl (x_seq s1 (x_seq s2 (x_seqR (x_ifT (x_tOf (x_bin rfl rfl ?_)) (x_ret (x_bin (x_bin rfl rfl hx) rfl ?_)))))), by rw [List.length_replicate]; omega, fun z hz => by rw [List.eq_of_mem_replicate hz]; exact hc⟩
    · simp [mLt, hr]
    · unfold mMul
      simp only [tx_len, List.length_singleton, Nat.one_mul]
      rw [if_pos ⟨q0, by omega, by show q.toNat ≤ 16777216; omega⟩, tx_mul]
      have : (List.replicate q.toNat [c]).flatten = List.replicate q.toNat c := by
        generalize q.toNat = k
        induction k with
        | zero => rfl
        | succ k ih => rw [List.replicate_succ, List.flatten_cons, ih, List.replicate_succ]; rfl
      rw [this]
  · obtain ⟨ys, w3, e3, h3, h4⟩ := x_lcP (S := wipeS [some (.dat .box), some (.dat (.int (n : Int))), some (.dat (.int r)), some (.dat (.int q)), none] [4]) (gm := gSet 4) (em := eBin mIx (eC (.str "ab")) (eCall 2 m_L_draw (aCons (eVar 0) (aCons (eC (.int 2)) aNil)))) (fun y => ∃ c, (c = 97 ∨ c = 98) ∧ y = .str (tx [c])) (upFrom 0 q.toNat) w2 fun x _ w => by
      obtain ⟨b, w', e, b0, b1⟩ := draw_ok w 2 (by decide) (by decide)
      obtain ⟨c, hc, hx⟩ := ab_at b b0 b1
      exact ⟨_, .str (tx [c]), w', rfl, x_bin rfl (x_call (x_cons rfl (x_cons rfl x_nil)) rfl e) hx, c, hc, rfl⟩
    obtain ⟨l, hl1, hl2, hl3⟩ := strs_any (fun c => c = 97 ∨ c = 98) ys h4
    have hlen : l.length = q.toNat := by rw [hl2, h3]; simp [upFrom]
    refine ⟨l, w3, x_run rfl (x_seq s1 (x_seq s2 (x_seq (x_ifF (x_tOf (x_bin rfl rfl ?_)) rfl) (x_ret (x_m1 rfl (x_frz (x_lc (x_by (x_cons rfl x_nil) ?_) ?_ e3)) (join_ones l (by omega) hl3)))))), by omega, hl1⟩
    · simp [mLt, hr]
    · exact rng_ok q0 (by omega)
    · simp [upFrom, sizeN]; omega

def lb_L_longer_0 : SM := (sSet 1 (eBin mAdd (eVar 1) (eFrz (oLst (aCons (eBin mAdd (eVar 2) (eC (.str "a"))) (aCons (eBin mAdd (eVar 2) (eC (.str "b"))) aNil))))))
def g_L_longer : SM := (sSeq (sSet 1 (eFrz (oLst aNil)))
    (sSeq (sFor (iAny (eVar 0)) (gSet 2) lb_L_longer_0)
    (sRet (eVar 1))))
def m_L_longer : List D → Bx → R D := runF 1 3 g_L_longer

def rowD (x : List Nat) : D := .str (tx x)
theorem longer_len (l : List (List Nat)) : (longer l).length = 2 * l.length := by
  unfold longer
  induction l with
  | nil => rfl
  | cons a l ih => rw [List.flatMap_cons, List.length_append, ih, List.length_cons]; show 2 + 2 * l.length = 2 * (l.length + 1); omega
theorem longer_app (l : List (List Nat)) (x : List Nat) : longer (l ++ [x]) = longer l ++ [x ++ [97], x ++ [98]] := by unfold longer; rw [List.flatMap_append]; simp
theorem longer_ok (l : List (List Nat)) (hl : l.length ≤ 100000) (hx : ∀ x ∈ l, x.length ≤ 9000) (w : Bx) : m_L_longer [.lst (l.map rowD)] w = .ok (.lst ((longer l).map rowD)) w := by
  obtain ⟨S2, w2, e2, rfl, done, s2, rfl, h1, _⟩ := x_forI (f := rowD) (gm := gSet 2) (body := lb_L_longer_0) (fun rest S w' => w' = w ∧ ∃ done s2, S = [some (.dat (.lst (l.map rowD))), some (.dat (.lst ((longer done).map rowD))), s2] ∧ done ++ rest = l ∧ ∀ x ∈ rest, x.length ≤ 9000) (fun x rest S w' h => by
    obtain ⟨rfl, done, s2, rfl, h1, h2⟩ := h
    have hn : done.length + (rest.length + 1) = l.length := by rw [← h1]; simp
    have hxl := h2 x (by simp)
    have a1 : mAdd (.str (tx x)) (.str "a") = some (.str (tx (x ++ [97]))) := by rw [lit_a]; exact add_tx (by simp; omega)
    have a2 : mAdd (.str (tx x)) (.str "b") = some (.str (tx (x ++ [98]))) := by rw [lit_b]; exact add_tx (by simp; omega)
    have a3 : mAdd (.lst ((longer done).map rowD)) (.lst [.str (tx (x ++ [97])), .str (tx (x ++ [98]))]) = some (.lst ((longer (done ++ [x])).map rowD)) := by
      rw [longer_app, List.map_append]
      exact addL (by rw [List.length_map, longer_len]; simp; omega)
    exact ⟨[some (.dat (.lst (l.map rowD))), some (.dat (.lst ((longer done).map rowD))), some (.dat (rowD x))], [some (.dat (.lst (l.map rowD))), some (.dat (.lst ((longer (done ++ [x])).map rowD))), some (.dat (rowD x))], w', rfl, x_set (p_bin rfl (x_frz (x_lst (p_cons (p_bin rfl rfl a1) (p_cons (p_bin rfl rfl a2) x_nil)) (lsz rfl))) a3), rfl, done ++ [x], _, rfl, by rw [List.append_assoc]; exact h1, fun y hy => h2 y (by simp [hy])⟩) l [some (.dat (.lst (l.map rowD))), some (.dat (.lst [])), none] w ⟨rfl, [], none, rfl, rfl, hx⟩
  rw [List.append_nil] at h1
  subst h1
  exact x_run rfl (p_seq (x_set (d := .lst []) (w1 := w2) (x_frz (x_lst x_nil (lsz rfl)))) (p_seq (x_for (p_any rfl rfl) e2) (x_ret rfl)))

def lb_L_all_rows_0 : SM := (sSeq (sSet 1 (eCall 1 m_L_longer (aCons (eVar 1) aNil)))
    (sSet 2 (eBin mAdd (eVar 2) (eVar 1))))
def g_L_all_rows : SM := (sSeq (sPar 1 2 (aCons (eFrz (oLst (aCons (eC (.str "")) aNil))) (aCons (eFrz (oLst (aCons (eC (.str "")) aNil))) aNil)))
    (sSeq (sFor (iBy rngOf (aCons (eVar 0) aNil)) (gSet 3) lb_L_all_rows_0)
    (sRet (eVar 2))))
def m_L_all_rows : List D → Bx → R D := runF 1 4 g_L_all_rows

theorem all_rows_ok (n : Nat) (hn : n ≤ 12) (w : Bx) : m_L_all_rows [.int (n : Int)] w = .ok (.lst ((allRows n).map rowD)) w := by
  obtain ⟨S2, w2, e2, rfl, s3, rfl⟩ := x_forN (w := w) (gm := gSet 3) (body := lb_L_all_rows_0) (fun (i : Nat) => D.int (i : Int)) (fun i S w' => w' = w ∧ ∃ s3, S = [some (.dat (.int (n : Int))), some (.dat (.lst ((layer i).map rowD))), some (.dat (.lst ((allRows i).map rowD))), s3]) n (S := [some (.dat (.int (n : Int))), some (.dat (.lst [.str ""])), some (.dat (.lst [.str ""])), none]) ⟨rfl, none, by rw [lit_nil]; rfl⟩ (fun i S w' hi h => by
    obtain ⟨rfl, s3, rfl⟩ := h
    have hL := layer_len i
    have p2 : 2 ^ i ≤ 2 ^ 12 := Nat.pow_le_pow_right (by decide) (by omega)
    have hA := allRows_len i
    have p3 : 2 ^ (i + 1) ≤ 2 ^ 13 := Nat.pow_le_pow_right (by decide) (by omega)
    have l1 := longer_ok (layer i) (by rw [hL]; omega) (fun x hx => by rw [(layer_mem.mp hx).1]; omega) w'
    have a3 : mAdd (.lst ((allRows i).map rowD)) (.lst ((layer (i + 1)).map rowD)) = some (.lst ((allRows (i + 1)).map rowD)) := by
      show _ = some (D.lst ((allRows i ++ layer (i + 1)).map rowD))
      rw [List.map_append]
      have hL2 := layer_len (i + 1)
      exact addL (by rw [List.length_map, List.length_map]; omega)
    exact ⟨[some (.dat (.int (n : Int))), some (.dat (.lst ((layer i).map rowD))), some (.dat (.lst ((allRows i).map rowD))), some (.dat (.int (i : Int)))], [some (.dat (.int (n : Int))), some (.dat (.lst ((layer (i + 1)).map rowD))), some (.dat (.lst ((allRows (i + 1)).map rowD))), some (.dat (.int (i : Int)))], w', rfl, p_seq (x_set (w1 := w') (x_call (p_cons rfl x_nil) rfl l1)) (x_set (p_bin rfl rfl a3)), rfl, _, rfl⟩)
  have ur : upFrom 0 ((n : Int)).toNat = (List.range n).map fun (i : Nat) => D.int (i : Int) := by simp [upFrom]
  rw [← ur] at e2
  exact x_run rfl (p_seq (x_par (d := .lst [.str ""]) (e := .lst [.str ""]) (w1 := w2) (p_cons (x_frz (x_lst (p_cons rfl x_nil) (lsz rfl))) (p_cons (x_frz (x_lst (p_cons rfl x_nil) (lsz rfl))) x_nil))) (p_seq (x_for (x_by (w1 := w2) (p_cons rfl x_nil) (rng_ok (by omega) (by omega))) e2) (x_ret rfl)))

def lb_law_0 : SM := (sSeq (sSet 4 (eCall 2 m_L_draw (aCons (eVar 1) (aCons (eC (.int 8)) aNil))))
    (sSeq (sSet 5 (eCall 1 m_L_all_rows (aCons (eVar 4) aNil)))
    (sSeq (sIf (tNotM (tOf (eCall 2 (mSame 8) (aCons (eFrz (oListGD 1 [(.str "")] mG_rows_to (aCons (eVar 4) aNil))) (aCons (eVar 5) aNil))))) (sRet (eC (.bl false))) sNil)
    (sSeq (sSet 6 (eCall 2 m_L_row (aCons (eVar 1) (aCons (eC (.int 8)) aNil))))
    (sSeq (sSet 7 (eIf (tOf (eBin (mI fun i j => decide (i ≤ j)) (eB mLen (aCons (eVar 6) aNil)) (eVar 4))) (eSl (eVar 5) (pSome (eIxL (eVar 5) (eVar 6))) pNone) (eFrz (oLst aNil))))
    (sSeq (sSetO 8 (oLst aNil))
    (sSeq (sForA (oGenK 1 1 mG_rows_to (aCons (eVar 4) aNil) (aCons (eVar 6) aNil)) (gSet 9) 8 (fun S => datAt S 9))
    (sSeq (sFrz 8 (sIf (tNotM (tOf (eCall 2 (mSame 8) (aCons (eVar 8) (aCons (eVar 7) aNil))))) (sRet (eC (.bl false))) sNil))
    (sSeq (sPar 10 11 (aCons (eCall 2 m_L_row (aCons (eVar 1) (aCons (eC (.int 12)) aNil))) (aCons (eCall 2 m_L_row (aCons (eVar 1) (aCons (eC (.int 12)) aNil))) aNil)))
    (sSeq (sIf (tOf (eBin mEq (eCall 2 m_L_draw (aCons (eVar 1) (aCons (eC (.int 3)) aNil))) (eC (.int 0)))) (sSet 11 (eBin mAdd (eSl (eVar 10) pNone (pSome (e1 mNeg (eC (.int 1))))) (eC (.str "b")))) sNil)
    (sSeq (sSet 12 (eOrM (eBin mLt (eB mLen (aCons (eVar 10) aNil)) (eB mLen (aCons (eVar 11) aNil))) (eAndM (eBin mEq (eB mLen (aCons (eVar 10) aNil)) (eB mLen (aCons (eVar 11) aNil))) (eBin mLt (eVar 10) (eVar 11)))))
    (sSeq (sIf (tNotM (tOf (eCall 2 (mSame 8) (aCons (eFrz (oLst (aCons (eCall 2 m_precedes (aCons (eVar 10) (aCons (eVar 11) aNil))) (aCons (eCall 2 m_precedes (aCons (eVar 10) (aCons (eVar 10) aNil))) aNil)))) (aCons (eFrz (oLst (aCons (eVar 12) (aCons (eC (.bl false)) aNil)))) aNil))))) (sRet (eC (.bl false))) sNil)
    (sIf (tNotM (tOf (eCall 2 (mSame 8) (aCons (eCall 2 m_precedes (aCons (eVar 11) (aCons (eVar 10) aNil))) (aCons (eAndM (eNotM (eVar 12)) (eBin mNe (eVar 10) (eVar 11))) aNil))))) (sRet (eC (.bl false))) sNil)))))))))))))
def g_law : SM := (sSeq (sFor (iBy rngOf (aCons (eC (.int 3)) aNil)) (gSet 2) lb_law_0)
    (sSeq (sSet 3 (eBin mMul (eC (.str "b")) (eC (.int 11))))
    (sRet (eCall 2 (mSame 8) (aCons (eFrz (oGenK 1 1 mG_rows_to (aCons (eC (.int 12)) aNil) (aCons (eBin mAdd (eVar 3) (eC (.str "a"))) aNil))) (aCons (eFrz (oLst (aCons (eBin mAdd (eVar 3) (eC (.str "a"))) (aCons (eBin mAdd (eVar 3) (eC (.str "b"))) aNil)))) aNil))))))

theorem tab8 (w : Bx) : ((allRows 7).map fun l => m_following [.str (tx l)] w) = (((allRows 8).drop 1).take 255).map fun l => R.ok (.str (tx l)) w := by kernel_rfl
theorem late2 (w : Bx) : [m_following [.str (tx (List.replicate 11 98 ++ [97]))] w, m_following [.str (tx (List.replicate 12 98))] w] = [R.ok (.str (tx (List.replicate 12 98))) w, R.ok (.str (tx (List.replicate 13 97))) w] := by kernel_rfl
def Succ (l l' : List Nat) : Prop := ∀ w, m_following [.str (tx l)] w = .ok (.str (tx l')) w
def nextOf (z : List Nat) : List (List Nat) → List Nat
  | [] => z
  | r :: _ => r
def Chain (z : List Nat) : List (List Nat) → Prop
  | [] => True
  | r :: rs => Succ r (nextOf z rs) ∧ Chain z rs
abbrev rtT : TM := tOf (eBin (mI fun i j => decide (i ≤ j)) (eB mLen (aCons (eVar 2) aNil)) (eVar 0))
abbrev rtB : SG := gSq (gYield (eVar 2)) (gSq (gPl (sSet 2 (eCall 1 m_following (aCons (eVar 2) aNil)))) gNil)
theorem gsq_nx {m k : SG} {ds ds1 : List D} {S S1 : SL} {w w1 : Bx} {r : RG} (h : m ds S w = .nx S1 w1 ds1) (h2 : k ds1 S1 w1 = r) : gSq m k ds S w = r := by unfold gSq; rw [h]; exact h2
theorem gpl_nx {m : SM} {ds : List D} {S S1 : SL} {w w1 : Bx} (h : m S w = .nx S1 w1) : gPl m ds S w = .nx S1 w1 ds := by unfold gPl; rw [h]
theorem le_dec (a b : Nat) : (mI fun i j => decide (i ≤ j)) (.int (a : Int)) (.int (b : Int)) = some (.bl (decide (a ≤ b))) := by
  show some (D.bl (decide ((a : Int) ≤ (b : Int)))) = _
  congr 2
  exact decide_eq_decide.mpr (by omega)
theorem le_len {l : List Nat} {n : Nat} (hl : l.length ≤ 100) (s1 : Option SV) (w : Bx) : rtT [some (.dat (.int (n : Int))), s1, some (.dat (.str (tx l)))] w = .ok (decide (l.length ≤ n)) w := by
  have q := le_dec l.length n
  exact x_tOf (x_bin (x_B (p_cons rfl x_nil) (len_tx (by omega))) rfl q)
theorem rt_lp {n : Nat} {z : List Nat} (hz : n < z.length) (hz2 : z.length ≤ 100) (hn : n ≤ 90) (s1 : Option SV) (w : Bx) : ∀ (rs : List (List Nat)) (acc : List D) (fu : Nat), rs.length < fu → (∀ r ∈ rs, r.length ≤ n) → acc.length + rs.length ≤ 10000 → Chain z rs →
    whLoopG rtT rtB fu acc [some (.dat (.int (n : Int))), s1, some (.dat (.str (tx (nextOf z rs))))] w = .nx [some (.dat (.int (n : Int))), s1, some (.dat (.str (tx z)))] w (acc ++ rs.map rowD)
  | [], acc, fu + 1, _, _, _, _ => by
    show (match rtT [some (.dat (.int (n : Int))), s1, some (.dat (.str (tx z)))] w with
      | .ok b w1 => _
      | _ => RG.bad) = _
    rw [le_len hz2 s1 w, decide_eq_false (by omega), List.map_nil, List.append_nil]
    rfl
  | r :: rs, acc, fu + 1, hf, hr, ha, hc => by
    rw [List.length_cons] at hf ha
    have hrl := hr r List.mem_cons_self
    have ih := rt_lp hz hz2 hn s1 w rs (acc ++ [rowD r]) fu (by omega) (fun x hx => hr x (List.mem_cons_of_mem _ hx)) (by simp; omega) hc.2
    have y1 : gYield (eVar 2) acc [some (.dat (.int (n : Int))), s1, some (.dat (.str (tx r)))] w = .nx [some (.dat (.int (n : Int))), s1, some (.dat (.str (tx r)))] w (acc ++ [rowD r]) := by
      unfold gYield
      rw [if_pos (show acc.length < sizeN by show _ < 16777216; omega)]
      rfl
    have y2 : sSet 2 (eCall 1 m_following (aCons (eVar 2) aNil)) [some (.dat (.int (n : Int))), s1, some (.dat (.str (tx r)))] w = .nx [some (.dat (.int (n : Int))), s1, some (.dat (.str (tx (nextOf z rs))))] w := x_set (x_call (p_cons rfl x_nil) rfl (hc.1 w))
    have e1 : rtB acc [some (.dat (.int (n : Int))), s1, some (.dat (.str (tx r)))] w = .nx [some (.dat (.int (n : Int))), s1, some (.dat (.str (tx (nextOf z rs))))] w (acc ++ [rowD r]) := gsq_nx y1 (gsq_nx (gpl_nx y2) rfl)
    show (match rtT [some (.dat (.int (n : Int))), s1, some (.dat (.str (tx r)))] w with
      | .ok b w1 => if b then (match rtB acc [some (.dat (.int (n : Int))), s1, some (.dat (.str (tx r)))] w1 with
        | .nx S2 w2 ds2 => whLoopG rtT rtB fu ds2 S2 w2
        | .ct S2 w2 ds2 => whLoopG rtT rtB fu ds2 S2 w2
        | .bk S2 w2 ds2 => .nx S2 w2 ds2
        | .bad => .bad) else .nx [some (.dat (.int (n : Int))), s1, some (.dat (.str (tx r)))] w1 acc
      | _ => .bad) = _
    rw [le_len (by omega) s1 w, decide_eq_true hrl]
    simp only [if_true]
    rw [e1]
    simp only
    rw [ih, List.map_cons, List.append_assoc]
    rfl
theorem rows_to_ok {n : Nat} {z : List Nat} (hz : n < z.length) (hz2 : z.length ≤ 100) (hn : n ≤ 90) (rs : List (List Nat)) (h1 : rs.length < 1100) (h2 : ∀ r ∈ rs, r.length ≤ n) (hc : Chain z rs) (w : Bx) :
    mG_rows_to [.int (n : Int), .str (tx (nextOf z rs))] w = .ok (rs.map rowD) w := by
  have lp := rt_lp hz hz2 hn (some (.dat (.str (tx (nextOf z rs))))) w rs [] 1100 h1 h2 (by show 0 + _ ≤ _; omega) hc
  rw [List.nil_append] at lp
  have e : g_rows_to [] (startS 3 [.int (n : Int), .str (tx (nextOf z rs))]) w = .nx [some (.dat (.int (n : Int))), some (.dat (.str (tx (nextOf z rs)))), some (.dat (.str (tx z)))] w (rs.map rowD) :=
    gsq_nx (gpl_nx (x_set rfl)) (gsq_nx (m := gWhile (fun _ => 1100) rtT rtB) lp rfl)
  unfold mG_rows_to runG
  rw [if_pos (show [D.int (n : Int), D.str (tx (nextOf z rs))].length = 2 from rfl), e]
theorem rows_app : ∀ {n m : Nat}, n ≤ m → ∃ t, allRows m = allRows n ++ t
  | n, 0, h => by
    have : n = 0 := by omega
    subst this
    exact ⟨[], by rw [List.append_nil]⟩
  | n, m + 1, h => by
    by_cases e : n = m + 1
    · subst e; exact ⟨[], by rw [List.append_nil]⟩
    · obtain ⟨t, ht⟩ := rows_app (n := n) (m := m) (by omega)
      exact ⟨t ++ layer (m + 1), by rw [← List.append_assoc, ← ht]; rfl⟩
theorem tab_at {j : Nat} (hj : j < 255) : Succ ((allRows 8).getD j []) ((allRows 8).getD (j + 1) []) := fun w => by
  have l7 : (allRows 7).length = 255 := by have := allRows_len 7; omega
  have l8 : (allRows 8).length = 511 := by have := allRows_len 8; omega
  obtain ⟨t, ht⟩ := rows_app (n := 7) (m := 8) (by decide)
  have := congrArg (fun l => l[j]?) (tab8 w)
  simp only [List.getElem?_map] at this
  have e1 : (allRows 7)[j]? = some ((allRows 8).getD j []) := by
    rw [List.getD_eq_getElem?_getD, ht, List.getElem?_append_left (by omega), List.getElem?_eq_getElem (by omega)]; rfl
  have e2 : (((allRows 8).drop 1).take 255)[j]? = some ((allRows 8).getD (j + 1) []) := by
    rw [List.getElem?_take_of_lt hj, List.getElem?_drop, Nat.add_comm 1 j, List.getD_eq_getElem?_getD, List.getElem?_eq_getElem (by omega)]; rfl
  rw [e1, e2] at this
  exact Option.some.inj this
theorem drop_cons {l : List (List Nat)} {j : Nat} (h : j < l.length) : l.drop j = l.getD j [] :: l.drop (j + 1) := by
  rw [List.drop_eq_getElem_cons h, List.getD_eq_getElem?_getD, List.getElem?_eq_getElem h]; rfl
theorem chain_rows {n : Nat} (hn : n ≤ 7) : ∀ (k j : Nat), j + k = (allRows n).length → Chain ((allRows 8).getD (allRows n).length []) ((allRows n).drop j) ∧ nextOf ((allRows 8).getD (allRows n).length []) ((allRows n).drop j) = (allRows 8).getD j []
  | 0, j, h => by
    rw [List.drop_eq_nil_of_le (by omega), ← h]
    exact ⟨trivial, rfl⟩
  | k + 1, j, h => by
    obtain ⟨t, ht⟩ := rows_app (n := n) (m := 8) (by omega)
    have hlen := allRows_len n
    have hp : 2 ^ (n + 1) ≤ 2 ^ 8 := Nat.pow_le_pow_right (by decide) (by omega)
    have hj : j < (allRows n).length := by omega
    obtain ⟨c, e⟩ := chain_rows hn k (j + 1) (by omega)
    have g : (allRows n).getD j [] = (allRows 8).getD j [] := by
      rw [ht, List.getD_eq_getElem?_getD, List.getD_eq_getElem?_getD, List.getElem?_append_left hj]
    rw [drop_cons hj]
    refine ⟨⟨?_, c⟩, g⟩
    rw [e, g]
    exact tab_at (by have : 2 ^ 8 = 256 := rfl; omega)
theorem behind_len {n : Nat} (hn : n ≤ 7) : n < ((allRows 8).getD (allRows n).length []).length ∧ ((allRows 8).getD (allRows n).length []).length ≤ 100 := by
  obtain ⟨t, ht⟩ := rows_app (n := n + 1) (m := 8) (by omega)
  have hlen := allRows_len n
  have hl := layer_len (n + 1)
  have hpos : 0 < (layer (n + 1)).length := by rw [hl]; exact Nat.pos_of_ne_zero (by simp)
  have e : (allRows 8).getD (allRows n).length [] = (layer (n + 1)).getD 0 [] := by
    rw [ht]
    show ((allRows n ++ layer (n + 1)) ++ t).getD _ [] = _
    rw [List.append_assoc, List.getD_eq_getElem?_getD, List.getElem?_append_right (Nat.le_refl _), Nat.sub_self, List.getElem?_append_left hpos, ← List.getD_eq_getElem?_getD]
  have hm : (layer (n + 1)).getD 0 [] ∈ layer (n + 1) := getD_mem hpos
  rw [e]
  have := (layer_mem.mp hm).1
  omega
theorem from_ok {n : Nat} (hn : n ≤ 7) {j : Nat} (hj : j < (allRows n).length) (w : Bx) : mG_rows_to [.int (n : Int), .str (tx ((allRows n).getD j []))] w = .ok (((allRows n).drop j).map rowD) w := by
  obtain ⟨z1, z2⟩ := behind_len hn
  have hlen := allRows_len n
  have hp : 2 ^ (n + 1) ≤ 2 ^ 8 := Nat.pow_le_pow_right (by decide) (by omega)
  have h8 : 2 ^ 8 = 256 := rfl
  obtain ⟨c, e⟩ := chain_rows hn ((allRows n).length - j) j (by omega)
  obtain ⟨t, ht⟩ := rows_app (n := n) (m := 8) (by omega)
  have g : (allRows n).getD j [] = (allRows 8).getD j [] := by
    rw [ht, List.getD_eq_getElem?_getD, List.getD_eq_getElem?_getD, List.getElem?_append_left hj]
  have := rows_to_ok z1 z2 (by omega) ((allRows n).drop j) (by rw [List.length_drop]; omega) (fun r hr => (allRows_mem.mp (List.mem_of_mem_drop hr)).1) c w
  rw [e, ← g] at this
  exact this
theorem none_ok {n : Nat} (hn : n ≤ 7) {l : List Nat} (hl : n < l.length) (h2 : l.length ≤ 100) (w : Bx) : mG_rows_to [.int (n : Int), .str (tx l)] w = .ok [] w := rows_to_ok (z := l) hl h2 (by omega) [] (by decide) (fun _ h => nomatch h) trivial w
theorem late_ok (w : Bx) : mG_rows_to [.int ((12 : Nat) : Int), .str (tx (List.replicate 11 98 ++ [97]))] w = .ok ([List.replicate 11 98 ++ [97], List.replicate 12 98].map rowD) w := by
  refine rows_to_ok (n := 12) (z := List.replicate 13 97) (by simp) (by simp) (by decide) [List.replicate 11 98 ++ [97], List.replicate 12 98] (by decide) (fun r hr => ?_) ⟨fun w => ?_, fun w => ?_, trivial⟩ w
  · simp only [List.mem_cons, List.not_mem_nil, or_false] at hr
    rcases hr with rfl | rfl <;> simp
  · have := late2 w
    rw [List.cons.injEq] at this
    exact this.1
  · have := late2 w
    rw [List.cons.injEq, List.cons.injEq] at this
    exact this.2.1
/-- where a row stands -/
theorem row_ix {n : Nat} {l : List Nat} (hm : l ∈ allRows n) : ∃ j, j < (allRows n).length ∧ (allRows n).getD j [] = l ∧ (((allRows n).map tx).findIdx? fun y => decide (y = tx l)) = some j := by
  obtain ⟨j, hj⟩ := List.getElem?_of_mem hm
  obtain ⟨h1, h2⟩ := List.getElem?_eq_some_iff.mp hj
  refine ⟨j, h1, by rw [List.getD_eq_getElem?_getD, hj]; rfl, ?_⟩
  rw [List.findIdx?_map]
  refine List.findIdx?_eq_some_iff_getElem.mpr ⟨h1, by simp [h2], fun k hk => ?_⟩
  have hs := List.pairwise_iff_getElem.mp (allRows_sorted n) k j (by omega) h1 hk
  rw [h2] at hs
  show ¬ (decide (tx (allRows n)[k] = tx l) = true)
  rw [decide_eq_true_eq]
  intro e
  have : (allRows n)[k] = l := by
    have := congrArg (fun s : Str => s.cps.toList) e
    simpa using this
  rw [this] at hs
  exact lt2_irrefl _ hs
theorem ab_ok {l : List Nat} (h : ∀ c ∈ l, AB c) : PyData.strOk (tx l) = true := by
  have := nice_tx (l := l) (fun c hc => h c hc) 0
  exact this
abbrev ST (s0 s2 s3 s4 s5 s6 s7 s8 s9 s10 s11 s12 : Option SV) : SL := [s0, some (.dat .box), s2, s3, s4, s5, s6, s7, s8, s9, s10, s11, s12]
def IS (S : SL) : Prop := ∃ s0 s2 s3 s4 s5 s6 s7 s8 s9 s10 s11 s12 : Option SV, S = ST s0 s2 s3 s4 s5 s6 s7 s8 s9 s10 s11 s12
theorem app_rows (s0 s2 s3 s4 s5 s6 s7 s10 s11 s12 : Option SV) : ∀ (l acc : List D) (s9 : Option SV), acc.length + l.length ≤ 10000 →
    ∃ s9', appL (gSet 9) 8 (fun S => datAt S 9) l (ST s0 s2 s3 s4 s5 s6 s7 (some (.own acc)) s9 s10 s11 s12) = some (ST s0 s2 s3 s4 s5 s6 s7 (some (.own (acc ++ l))) s9' s10 s11 s12)
  | [], acc, s9, _ => ⟨s9, by rw [List.append_nil]; rfl⟩
  | d :: l, acc, s9, h => by
    rw [List.length_cons] at h
    obtain ⟨s9', e⟩ := app_rows s0 s2 s3 s4 s5 s6 s7 s10 s11 s12 l (acc ++ [d]) (some (.dat d)) (by simp; omega)
    refine ⟨s9', ?_⟩
    unfold appL
    rw [show gSet 9 d (ST s0 s2 s3 s4 s5 s6 s7 (some (.own acc)) s9 s10 s11 s12) = some (ST s0 s2 s3 s4 s5 s6 s7 (some (.own acc)) (some (.dat d)) s10 s11 s12) from rfl, Option.bind_some,
      show ownAt (ST s0 s2 s3 s4 s5 s6 s7 (some (.own acc)) (some (.dat d)) s10 s11 s12) 8 = some acc from rfl, Option.bind_some,
      show datAt (ST s0 s2 s3 s4 s5 s6 s7 (some (.own acc)) (some (.dat d)) s10 s11 s12) 9 = some d from rfl, Option.bind_some, if_pos (show acc.length < sizeN by show _ < 16777216; omega)]
    rw [List.append_assoc] at e
    exact e
theorem plain_rows (l : List (List Nat)) (h : l.length ≤ 10000) (n : Nat) : plainD (n + 2) (.lst (l.map rowD)) := ⟨by rw [List.length_map]; omega, fun x hx => by
  obtain ⟨r, _, rfl⟩ := List.mem_map.mp hx
  exact trivial⟩
theorem sl_from {l : List (List Nat)} {i : Nat} (hi : i ≤ l.length) : mSl (.lst (l.map rowD)) (some (i : Int)) none = some (.lst ((l.drop i).map rowD)) := by
  unfold mSl
  show some (D.lst (cut (l.map rowD) (some (i : Int)) none)) = _
  congr 2
  unfold cut
  rw [HT.sIx_nat, HT.sIx_none, List.length_map, Nat.min_eq_left hi, List.map_drop]
  exact List.take_of_length_le (by simp)
theorem sl_lastT (l : List Nat) (hl : l.length ≤ 10000) : mSl (.str (tx l)) none (some (-1)) = some (.str (tx l.dropLast)) := by
  unfold mSl
  simp only [tx_len]
  rw [if_pos (show l.length ≤ sizeN by show _ ≤ 16777216; omega), tx_cut]
  unfold cut
  rw [HT.sIx_none]
  have e : HT.sIx l.length l.length (some (-1)) = l.length - 1 := by
    unfold HT.sIx
    simp
    omega
  rw [e, List.dropLast_eq_take]
  simp
/-- the first half of a turn -/
theorem gen_ok (s0 s2 s3 s4 s5 s6 s7 s8 s9 s10 s11 s12 : Option SV) (w : Bx) : ∃ t4 t5 t6 t7 t8 t9 w2, ∀ {rest : SM} {r : RS}, rest (ST s0 s2 s3 t4 t5 t6 t7 t8 t9 s10 s11 s12) w2 = r →
    (sSeq (sSet 4 (eCall 2 m_L_draw (aCons (eVar 1) (aCons (eC (.int 8)) aNil))))
    (sSeq (sSet 5 (eCall 1 m_L_all_rows (aCons (eVar 4) aNil)))
    (sSeq (sIf (tNotM (tOf (eCall 2 (mSame 8) (aCons (eFrz (oListGD 1 [(.str "")] mG_rows_to (aCons (eVar 4) aNil))) (aCons (eVar 5) aNil))))) (sRet (eC (.bl false))) sNil)
    (sSeq (sSet 6 (eCall 2 m_L_row (aCons (eVar 1) (aCons (eC (.int 8)) aNil))))
    (sSeq (sSet 7 (eIf (tOf (eBin (mI fun i j => decide (i ≤ j)) (eB mLen (aCons (eVar 6) aNil)) (eVar 4))) (eSl (eVar 5) (pSome (eIxL (eVar 5) (eVar 6))) pNone) (eFrz (oLst aNil))))
    (sSeq (sSetO 8 (oLst aNil))
    (sSeq (sForA (oGenK 1 1 mG_rows_to (aCons (eVar 4) aNil) (aCons (eVar 6) aNil)) (gSet 9) 8 (fun S => datAt S 9))
    (sSeq (sFrz 8 (sIf (tNotM (tOf (eCall 2 (mSame 8) (aCons (eVar 8) (aCons (eVar 7) aNil))))) (sRet (eC (.bl false))) sNil)) rest)))))))) (ST s0 s2 s3 s4 s5 s6 s7 s8 s9 s10 s11 s12) w = r := by
  obtain ⟨n0, w1, e1, n1, n2⟩ := draw_ok w 8 (by decide) (by decide)
  obtain ⟨n, rfl⟩ : ∃ n : Nat, n0 = (n : Int) := ⟨n0.toNat, by omega⟩
  have hn : n ≤ 7 := by omega
  have hlen := allRows_len n
  have hp : 2 ^ (n + 1) ≤ 2 ^ 8 := Nat.pow_le_pow_right (by decide) (by omega)
  have h8 : 2 ^ 8 = 256 := rfl
  have hpos : 0 < (allRows n).length := by
    have : 2 ^ 1 ≤ 2 ^ (n + 1) := Nat.pow_le_pow_right (by decide) (by omega)
    omega
  have ar := all_rows_ok n (by omega) w1
  obtain ⟨t0, ht0⟩ := rows_app (n := 0) (m := n) (by omega)
  have h0 : (allRows n).getD 0 [] = [] := by rw [ht0]; rfl
  have f0 := from_ok hn hpos w1
  rw [h0, List.drop_zero] at f0
  have ls : oListGD 1 [(.str "")] mG_rows_to (aCons (eVar 4) aNil) (ST s0 s2 s3 (some (.dat (.int (n : Int)))) (some (.dat (.lst ((allRows n).map rowD)))) s6 s7 s8 s9 s10 s11 s12) w1 = .ok ((allRows n).map rowD) w1 := by
    show (match mG_rows_to [.int (n : Int), .str ""] w1 with
      | .ok es w2 => R.ok es w2
      | _ => .bad) = _
    rw [show (D.str "" : D) = .str (tx []) from rfl, f0]
  have z1 : mSame 8 [.lst ((allRows n).map rowD), .lst ((allRows n).map rowD)] w1 = .ok (.bl true) w1 := x_same' (plain_rows _ (by omega) 6)
  obtain ⟨l, w2, e2, hl, hab⟩ := row_ok w1 8 (by decide)
  have q := le_dec l.length n
  -- what is due
  obtain ⟨rs, hrs, k7, gk⟩ : ∃ rs : List (List Nat), rs.length ≤ 1000 ∧ (∀ t8 t9 : Option SV, sSet 7 (eIf (tOf (eBin (mI fun i j => decide (i ≤ j)) (eB mLen (aCons (eVar 6) aNil)) (eVar 4))) (eSl (eVar 5) (pSome (eIxL (eVar 5) (eVar 6))) pNone) (eFrz (oLst aNil))) (ST s0 s2 s3 (some (.dat (.int (n : Int)))) (some (.dat (.lst ((allRows n).map rowD)))) (some (.dat (.str (tx l)))) s7 t8 t9 s10 s11 s12) w2 = .nx (ST s0 s2 s3 (some (.dat (.int (n : Int)))) (some (.dat (.lst ((allRows n).map rowD)))) (some (.dat (.str (tx l)))) (some (.dat (.lst (rs.map rowD)))) t8 t9 s10 s11 s12) w2) ∧ mG_rows_to [.int (n : Int), .str (tx l)] w2 = .ok (rs.map rowD) w2 := by
    by_cases hln : l.length ≤ n
    · rw [decide_eq_true hln] at q
      have hm : l ∈ allRows n := allRows_mem.mpr ⟨hln, hab⟩
      obtain ⟨j, hj, gj, fj⟩ := row_ix hm
      have ix : mIndexL (.lst ((allRows n).map rowD)) (.str (tx l)) = some (.int (j : Int)) := by
        have e : (allRows n).map rowD = ((allRows n).map tx).map D.str := by rw [List.map_map]; rfl
        rw [e, index_texts (ab_ok hab) fun y hy => by
          obtain ⟨r, hr, rfl⟩ := List.mem_map.mp hy
          exact ab_ok (allRows_mem.mp hr).2, fj]
        rfl
      have fo := from_ok hn hj w2
      rw [gj] at fo
      refine ⟨(allRows n).drop j, by rw [List.length_drop]; omega, fun t8 t9 => ?_, fo⟩
      exact x_set (x_eifT (x_tOf (x_bin (x_B (p_cons rfl x_nil) (len_tx (by omega))) rfl q)) (x_sl rfl (x_pSome (x_ixL rfl rfl ix)) x_pN (sl_from (by omega))))
    · rw [decide_eq_false hln] at q
      refine ⟨[], by decide, fun t8 t9 => ?_, none_ok hn (by omega) (by omega) w2⟩
      exact x_set (x_eifF (x_tOf (x_bin (x_B (p_cons rfl x_nil) (len_tx (by omega))) rfl q)) (x_frz (x_lst x_nil (lsz rfl))))
  have z2 : mSame 8 [.lst (rs.map rowD), .lst (rs.map rowD)] w2 = .ok (.bl true) w2 := x_same' (plain_rows _ (by omega) 6)
  obtain ⟨t9, ap⟩ := app_rows s0 s2 s3 (some (.dat (.int (n : Int)))) (some (.dat (.lst ((allRows n).map rowD)))) (some (.dat (.str (tx l)))) (some (.dat (.lst (rs.map rowD)))) s10 s11 s12 (rs.map rowD) [] s9 (by rw [List.length_map]; show 0 + _ ≤ _; omega)
  rw [List.nil_append] at ap
  have k9 : sForA (oGenK 1 1 mG_rows_to (aCons (eVar 4) aNil) (aCons (eVar 6) aNil)) (gSet 9) 8 (fun S => datAt S 9) (ST s0 s2 s3 (some (.dat (.int (n : Int)))) (some (.dat (.lst ((allRows n).map rowD)))) (some (.dat (.str (tx l)))) (some (.dat (.lst (rs.map rowD)))) (some (.own [])) s9 s10 s11 s12) w2 = .nx (ST s0 s2 s3 (some (.dat (.int (n : Int)))) (some (.dat (.lst ((allRows n).map rowD)))) (some (.dat (.str (tx l)))) (some (.dat (.lst (rs.map rowD)))) (some (.own (rs.map rowD))) t9 s10 s11 s12) w2 := by
    have g1 : oGenK 1 1 mG_rows_to (aCons (eVar 4) aNil) (aCons (eVar 6) aNil) (ST s0 s2 s3 (some (.dat (.int (n : Int)))) (some (.dat (.lst ((allRows n).map rowD)))) (some (.dat (.str (tx l)))) (some (.dat (.lst (rs.map rowD)))) (some (.own [])) s9 s10 s11 s12) w2 = .ok (rs.map rowD) w2 := by
      show (match mG_rows_to [.int (n : Int), .str (tx l)] w2 with
        | .ok zs w3 => R.ok zs w3
        | _ => .bad) = _
      rw [gk]
    unfold sForA
    rw [show ownAt (ST s0 s2 s3 (some (.dat (.int (n : Int)))) (some (.dat (.lst ((allRows n).map rowD)))) (some (.dat (.str (tx l)))) (some (.dat (.lst (rs.map rowD)))) (some (.own [])) s9 s10 s11 s12) 8 = some [] from rfl]
    simp only [g1]
    rw [if_pos (show _ < sizeN by rw [List.length_map]; show _ < 16777216; omega), ap]
  refine ⟨_, _, _, _, _, _, w2, fun h => x_seq (x_set (x_call (p_cons rfl (p_cons x_C x_nil)) rfl e1)) (p_seq (x_set (x_call (p_cons rfl x_nil) rfl ar)) (p_seq (x_ifF (x_notT (x_tOf (x_call (p_cons (x_frz ls) (p_cons rfl x_nil)) rfl z1))) rfl) (x_seq (x_set (x_call (p_cons rfl (p_cons x_C x_nil)) rfl e2)) (p_seq (k7 _ _) (p_seq (x_setO (x_lst x_nil (lsz rfl))) (p_seq k9 (p_seq (x_frzS (x_ifF (x_notT (x_tOf (x_call (p_cons rfl (p_cons rfl x_nil)) rfl z2))) rfl)) h)))))))⟩
theorem lt_str (x y : List Nat) : mLt (.str (tx x)) (.str (tx y)) = some (.bl (decide (x < y))) := by
  show some (D.bl (decide ((tx x).cps.toList < (tx y).cps.toList))) = _
  congr 2
theorem lt_len (x y : List Nat) : mLt (.int (x.length : Int)) (.int (y.length : Int)) = some (.bl (decide (x.length < y.length))) := by
  show some (D.bl (decide ((x.length : Int) < (y.length : Int)))) = _
  congr 2
  exact decide_eq_decide.mpr (by omega)
theorem eq_len (x y : List Nat) : mEq (.int (x.length : Int)) (.int (y.length : Int)) = some (.bl (decide (x.length = y.length))) := by
  have z : mEq (.int (x.length : Int)) (.int (y.length : Int)) = some (.bl (decide ((x.length : Int) = (y.length : Int)))) := by simp [mEq, eqB]
  rw [z]
  congr 2
  exact decide_eq_decide.mpr (by omega)
instance (x y : List Nat) : Decidable (lt2 x y) := by unfold lt2; infer_instance
theorem pre_eq (x y : List Nat) (hx : x.length ≤ 9000) (hy : y.length ≤ 9000) (w : Bx) : m_precedes [.str (tx x), .str (tx y)] w = .ok (.bl (decide (lt2 x y))) w := by
  obtain ⟨b, e, h⟩ := precedes_ok x y hx hy w
  rw [e]
  congr 2
  by_cases c : lt2 x y
  · rw [decide_eq_true c]; exact h.mpr c
  · rw [decide_eq_false c]
    cases b with
    | false => rfl
    | true => exact absurd (h.mp rfl) c
theorem tx_inj {x y : List Nat} : tx x = tx y ↔ x = y := ⟨fun e => by
  have := congrArg (fun s : Str => s.cps.toList) e
  simpa using this, fun e => by rw [e]⟩
/-- the second half -/
theorem cmp_ok (s0 s2 s3 s4 s5 s6 s7 s8 s9 s10 s11 s12 : Option SV) (w : Bx) : ∃ S2 w2, (sSeq (sPar 10 11 (aCons (eCall 2 m_L_row (aCons (eVar 1) (aCons (eC (.int 12)) aNil))) (aCons (eCall 2 m_L_row (aCons (eVar 1) (aCons (eC (.int 12)) aNil))) aNil)))
    (sSeq (sIf (tOf (eBin mEq (eCall 2 m_L_draw (aCons (eVar 1) (aCons (eC (.int 3)) aNil))) (eC (.int 0)))) (sSet 11 (eBin mAdd (eSl (eVar 10) pNone (pSome (e1 mNeg (eC (.int 1))))) (eC (.str "b")))) sNil)
    (sSeq (sSet 12 (eOrM (eBin mLt (eB mLen (aCons (eVar 10) aNil)) (eB mLen (aCons (eVar 11) aNil))) (eAndM (eBin mEq (eB mLen (aCons (eVar 10) aNil)) (eB mLen (aCons (eVar 11) aNil))) (eBin mLt (eVar 10) (eVar 11)))))
    (sSeq (sIf (tNotM (tOf (eCall 2 (mSame 8) (aCons (eFrz (oLst (aCons (eCall 2 m_precedes (aCons (eVar 10) (aCons (eVar 11) aNil))) (aCons (eCall 2 m_precedes (aCons (eVar 10) (aCons (eVar 10) aNil))) aNil)))) (aCons (eFrz (oLst (aCons (eVar 12) (aCons (eC (.bl false)) aNil)))) aNil))))) (sRet (eC (.bl false))) sNil)
    (sIf (tNotM (tOf (eCall 2 (mSame 8) (aCons (eCall 2 m_precedes (aCons (eVar 11) (aCons (eVar 10) aNil))) (aCons (eAndM (eNotM (eVar 12)) (eBin mNe (eVar 10) (eVar 11))) aNil))))) (sRet (eC (.bl false))) sNil))))) (ST s0 s2 s3 s4 s5 s6 s7 s8 s9 s10 s11 s12) w = .nx S2 w2 ∧ IS S2 := by
  obtain ⟨x, w1, er, hx, hxa⟩ := row_ok w 12 (by decide)
  obtain ⟨y0, w2, e2, hy0, hya⟩ := row_ok w1 12 (by decide)
  obtain ⟨b, w3, e3, b0, b1⟩ := draw_ok w2 3 (by decide) (by decide)
  have qb : mEq (.int b) (.int 0) = some (.bl (decide (b = 0))) := by simp [mEq, eqB]
  have k0 : sPar 10 11 (aCons (eCall 2 m_L_row (aCons (eVar 1) (aCons (eC (.int 12)) aNil))) (aCons (eCall 2 m_L_row (aCons (eVar 1) (aCons (eC (.int 12)) aNil))) aNil)) (ST s0 s2 s3 s4 s5 s6 s7 s8 s9 s10 s11 s12) w = .nx (ST s0 s2 s3 s4 s5 s6 s7 s8 s9 (some (.dat (.str (tx x)))) (some (.dat (.str (tx y0)))) s12) w2 :=
    x_par (x_cons (x_call (p_cons rfl (p_cons x_C x_nil)) rfl er) (x_cons (x_call (p_cons rfl (p_cons x_C x_nil)) rfl e2) x_nil))
  -- the other row
  obtain ⟨y, hy, k1⟩ : ∃ y : List Nat, y.length ≤ 13 ∧ sIf (tOf (eBin mEq (eCall 2 m_L_draw (aCons (eVar 1) (aCons (eC (.int 3)) aNil))) (eC (.int 0)))) (sSet 11 (eBin mAdd (eSl (eVar 10) pNone (pSome (e1 mNeg (eC (.int 1))))) (eC (.str "b")))) sNil (ST s0 s2 s3 s4 s5 s6 s7 s8 s9 (some (.dat (.str (tx x)))) (some (.dat (.str (tx y0)))) s12) w2 = .nx (ST s0 s2 s3 s4 s5 s6 s7 s8 s9 (some (.dat (.str (tx x)))) (some (.dat (.str (tx y)))) s12) w3 := by
    by_cases hb : b = 0
    · rw [decide_eq_true hb] at qb
      have sl : mSl (.str (tx x)) none (some (-1)) = some (.str (tx x.dropLast)) := sl_lastT x (by omega)
      have ad : mAdd (.str (tx x.dropLast)) (.str "b") = some (.str (tx (x.dropLast ++ [98]))) := by
        rw [show ("b" : Str) = tx [98] from lit_b]
        exact add_tx (by simp; omega)
      refine ⟨x.dropLast ++ [98], by simp; omega, x_ifT (x_tOf (x_bin (x_call (p_cons rfl (p_cons x_C x_nil)) rfl e3) x_C qb)) (x_set (x_bin (x_sl rfl x_pN (x_pSome (x_e1 x_C rfl)) sl) x_C ad))⟩
    · rw [decide_eq_false hb] at qb
      exact ⟨y0, by omega, x_ifF (x_tOf (x_bin (x_call (p_cons rfl (p_cons x_C x_nil)) rfl e3) x_C qb)) rfl⟩
  have lx : mLen [.str (tx x)] = some (.int (x.length : Int)) := len_tx (by omega)
  have ly : mLen [.str (tx y)] = some (.int (y.length : Int)) := len_tx (by omega)
  have k2 : sSet 12 (eOrM (eBin mLt (eB mLen (aCons (eVar 10) aNil)) (eB mLen (aCons (eVar 11) aNil))) (eAndM (eBin mEq (eB mLen (aCons (eVar 10) aNil)) (eB mLen (aCons (eVar 11) aNil))) (eBin mLt (eVar 10) (eVar 11)))) (ST s0 s2 s3 s4 s5 s6 s7 s8 s9 (some (.dat (.str (tx x)))) (some (.dat (.str (tx y)))) s12) w3 = .nx (ST s0 s2 s3 s4 s5 s6 s7 s8 s9 (some (.dat (.str (tx x)))) (some (.dat (.str (tx y)))) (some (.dat (.bl (decide (lt2 x y)))))) w3 := by
    have q1 := lt_len x y
    have q2 := eq_len x y
    have q3 := lt_str x y
    by_cases h1 : x.length < y.length
    · rw [decide_eq_true h1] at q1
      rw [decide_eq_true (show lt2 x y from .inl h1)]
      exact x_set (x_eorT (x_bin (x_B (p_cons rfl x_nil) lx) (x_B (p_cons rfl x_nil) ly) q1))
    · rw [decide_eq_false h1] at q1
      by_cases h2 : x.length = y.length
      · rw [decide_eq_true h2] at q2
        have e : decide (x < y) = decide (lt2 x y) := decide_eq_decide.mpr ⟨fun h => .inr ⟨h2, h⟩, fun h => h.elim (fun z => absurd z h1) fun z => z.2⟩
        rw [e] at q3
        exact x_set (x_eorF (x_bin (x_B (p_cons rfl x_nil) lx) (x_B (p_cons rfl x_nil) ly) q1) (x_eandT (x_bin (x_B (p_cons rfl x_nil) lx) (x_B (p_cons rfl x_nil) ly) q2) (x_bin rfl rfl q3)))
      · rw [decide_eq_false h2] at q2
        rw [decide_eq_false (show ¬ lt2 x y from fun h => h.elim h1 fun z => h2 z.1)]
        exact x_set (x_eorF (x_bin (x_B (p_cons rfl x_nil) lx) (x_B (p_cons rfl x_nil) ly) q1) (x_eandF (x_bin (x_B (p_cons rfl x_nil) lx) (x_B (p_cons rfl x_nil) ly) q2)))
  have p1 := pre_eq x y (by omega) (by omega) w3
  have p2 := pre_eq x x (by omega) (by omega) w3
  have p3 := pre_eq y x (by omega) (by omega) w3
  rw [decide_eq_false (lt2_irrefl x)] at p2
  have z1 : mSame 8 [.lst [.bl (decide (lt2 x y)), .bl false], .lst [.bl (decide (lt2 x y)), .bl false]] w3 = .ok (.bl true) w3 := x_same' ⟨lsz rfl, plain_cons trivial (plain_cons trivial plain_nil)⟩
  have z2 : mSame 8 [.bl (decide (lt2 y x)), .bl (decide (lt2 y x))] w3 = .ok (.bl true) w3 := x_same' trivial
  have ne : mNe (.str (tx x)) (.str (tx y)) = some (.bl (!decide (x = y))) := by
    have z : mNe (.str (tx x)) (.str (tx y)) = some (.bl (!decide (tx x = tx y))) := by simp [mNe, eqB]
    rw [z]
    congr 3
    exact decide_eq_decide.mpr tx_inj
  have k4 : eAndM (eNotM (eVar 12)) (eBin mNe (eVar 10) (eVar 11)) (ST s0 s2 s3 s4 s5 s6 s7 s8 s9 (some (.dat (.str (tx x)))) (some (.dat (.str (tx y)))) (some (.dat (.bl (decide (lt2 x y)))))) w3 = .ok (.bl (decide (lt2 y x))) w3 := by
    by_cases c : lt2 x y
    · rw [decide_eq_true c, decide_eq_false (fun h => lt2_irrefl x (lt2_trans c h))]
      exact x_eandF (x_enotT rfl)
    · rw [decide_eq_false c]
      have e : (!decide (x = y)) = decide (lt2 y x) := by
        by_cases exy : x = y
        · rw [decide_eq_true exy, decide_eq_false (by rw [exy]; exact lt2_irrefl y)]; rfl
        · rw [decide_eq_false exy, decide_eq_true ((lt2_tri x y).elim (fun z => absurd z c) fun z => z.elim (fun z => absurd z exy) id)]; rfl
      rw [e] at ne
      exact x_eandT (x_enotF rfl) (x_bin rfl rfl ne)
  exact ⟨_, w3, x_seq k0 (x_seq k1 (p_seq k2 (p_seq (x_ifF (x_notT (x_tOf (x_call (p_cons (x_frz (x_lst (p_cons (x_call (p_cons rfl (p_cons rfl x_nil)) rfl p1) (p_cons (x_call (p_cons rfl (p_cons rfl x_nil)) rfl p2) x_nil)) (lsz rfl))) (p_cons (x_frz (x_lst (p_cons rfl (p_cons x_C x_nil)) (lsz rfl))) x_nil)) rfl z1))) rfl)
    (x_ifF (x_notT (x_tOf (x_call (p_cons (x_call (p_cons rfl (p_cons rfl x_nil)) rfl p3) (p_cons k4 x_nil)) rfl z2))) rfl)))), _, _, _, _, _, _, _, _, _, _, _, _, rfl⟩
theorem law_true : ∀ w : Bx, ∃ w', g_law (lawS 13) w = .rt (.bl true) w' := fun w => by
  obtain ⟨S2, w2, e, hI⟩ := x_forP (gm := gSet 2) (body := lb_law_0) IS (upFrom 0 3) (lawS 13) w ⟨_, _, _, _, _, _, _, _, _, _, _, _, rfl⟩ fun x _ S w h => by
    obtain ⟨s0, s2, s3, s4, s5, s6, s7, s8, s9, s10, s11, s12, rfl⟩ := h
    obtain ⟨t4, t5, t6, t7, t8, t9, w2, g⟩ := gen_ok s0 (some (.dat x)) s3 s4 s5 s6 s7 s8 s9 s10 s11 s12 w
    obtain ⟨S2, w3, e, h2⟩ := cmp_ok s0 (some (.dat x)) s3 t4 t5 t6 t7 t8 t9 s10 s11 s12 w2
    exact ⟨_, rfl, S2, w3, .inl (g e), h2⟩
  obtain ⟨s0, s2, s3, s4, s5, s6, s7, s8, s9, s10, s11, s12, rfl⟩ := hI
  have mu : mMul (.str "b") (.int 11) = some (.str (tx (List.replicate 11 98))) := by
    have e : mMul (.str "b") (.int 11) = if (0 : Int) ≤ 11 ∧ (11 : Int) < 2 ^ 30 ∧ ("b" : Str).length * (11 : Int).toNat ≤ sizeN then some (.str (mulS "b" (11 : Int).toNat)) else none := rfl
    have l1 : ("b" : Str).length = 1 := by decide +kernel
    rw [e, if_pos ⟨by decide, by decide, by rw [l1]; exact lsz rfl⟩, lit_b]
    rfl
  have a1 : mAdd (.str (tx (List.replicate 11 98))) (.str "a") = some (.str (tx (List.replicate 11 98 ++ [97]))) := by
    rw [show ("a" : Str) = tx [97] from lit_a]
    exact add_tx (by simp)
  have a2 : mAdd (.str (tx (List.replicate 11 98))) (.str "b") = some (.str (tx (List.replicate 12 98))) := by
    rw [show ("b" : Str) = tx [98] from lit_b, add_tx (by simp)]
    rfl
  have gk : oGenK 1 1 mG_rows_to (aCons (eC (.int 12)) aNil) (aCons (eBin mAdd (eVar 3) (eC (.str "a"))) aNil) (ST s0 s2 (some (.dat (.str (tx (List.replicate 11 98))))) s4 s5 s6 s7 s8 s9 s10 s11 s12) w2 = .ok ([List.replicate 11 98 ++ [97], List.replicate 12 98].map rowD) w2 := by
    unfold oGenK
    rw [show (aCons (eC (.int 12)) aNil) (ST s0 s2 (some (.dat (.str (tx (List.replicate 11 98))))) s4 s5 s6 s7 s8 s9 s10 s11 s12) w2 = .ok [.int 12] w2 from rfl, R.bind_ok,
      show (aCons (eBin mAdd (eVar 3) (eC (.str "a"))) aNil) (ST s0 s2 (some (.dat (.str (tx (List.replicate 11 98))))) s4 s5 s6 s7 s8 s9 s10 s11 s12) w2 = .ok [.str (tx (List.replicate 11 98 ++ [97]))] w2 from p_cons (x_bin rfl x_C a1) x_nil, R.bind_ok, if_pos ⟨rfl, rfl⟩]
    show (match mG_rows_to [.int ((12 : Nat) : Int), .str (tx (List.replicate 11 98 ++ [97]))] w2 with
      | .ok zs w3 => R.ok zs w3
      | _ => .bad) = _
    rw [late_ok]
  have z : mSame 8 [.lst [.str (tx (List.replicate 11 98 ++ [97])), .str (tx (List.replicate 12 98))], .lst [.str (tx (List.replicate 11 98 ++ [97])), .str (tx (List.replicate 12 98))]] w2 = .ok (.bl true) w2 := x_same' ⟨lsz rfl, plain_cons trivial (plain_cons trivial plain_nil)⟩
  exact ⟨w2, x_seq (x_for (x_by (p_cons x_C x_nil) (rng_ok (by decide) (by decide))) e) (p_seq (x_set (x_bin x_C x_C mu)) (x_ret (x_call (p_cons (x_frz gk) (p_cons (x_frz (x_lst (p_cons (x_bin rfl x_C a1) (p_cons (x_bin rfl x_C a2) x_nil)) (lsz rfl))) x_nil)) rfl z)))⟩

section
variable {P : Program} {w : World} {K : PySem.W.Frag} {mg : Str → Option Value} {base : Heap} {tb : List (Addr × Str)}
theorem ok_open (T : Top P w K mg base tb) : ∃ fo fdo, FnOk P w K mg base (L2N.CX P w) 1 fo fdo ["_law_script"] (spOpen K) ∧ mg "_law_open" = some (.ref fo) ∧ PySem.W.keepIn K (.ref fo) = true ∧ Binds K fdo ["_law_script"] [] := by
  obtain ⟨fo, fdo, F, hm, hb⟩ := T.d_L_open
  refine ⟨fo, fdo, okXN (k := 0) F sc_L_open (fun vs H Q E h => ?_) (fun cdv A outer s H vs Q E hr h => ?_), hm, F.kp, hb⟩
  · obtain ⟨a, ns, rfl, _⟩ := h; rfl
  · obtain ⟨a, ns, rfl, hS, hl, q⟩ := h
    have nd := sc_L_open.nd
    refine ⟨_, pss_cons (ps_set (i := 1) nd rfl (.inl rfl) (pe_callTy call_list_of (by rfl) T.n_list (by decide +kernel) (pa_cons (pe_slice sl_list (pv 0) po_none (po_some pe_int)) pa_nil)))
      (pss_cons (ps_set (i := 2) nd rfl (.inl rfl) (pe_op op_add pe_int (pe_callB call_len_seq (by rfl) T.n_len PySem.boot_len (pa_cons (pv 1) pa_nil))))
      (pss_cons (ps_for (passes_of rfl) rfl (pi_list (pv 1)) (pg_name (i := 3) nd rfl (.inl rfl)) (pss_one (ps_set (i := 2) nd rfl (.inl rfl) (pe_op op_mod (pe_op op_add (pe_op op_add (pe_op op_mul (pv 2) pe_int) (pe_op op_mod (pv 3) pe_int)) pe_int) pe_int))))
      (pss_one (ps_ret (pe_lst (pa_cons (pv 1) (pa_cons pe_int (pa_cons pe_int (pa_cons (pv 2) pa_nil))))))))), ?_⟩
    refine ⟨.ref a, rfl, 63, rfl, a, ns.map V.int, rfl, hS, fun p np => ?_⟩
    rw [cut63 hl]
    refine ⟨p, _, rfl, .inl (SqL.of upd_same), fun c nc => ?_⟩
    have s1 : Same H (upd H p (.lst (ns.map V.int))) := fun x o h => by rw [upd_ne (ne_of_none h np)]; exact h
    have s2 : Same (upd H p (.lst (ns.map V.int))) (upd (upd H p (.lst (ns.map V.int))) c (.lst (ns.map V.int))) := fun x o h => by rw [upd_ne (ne_of_none h nc)]; exact h
    have hc : (upd (upd H p (.lst (ns.map V.int))) c (.lst (ns.map V.int))) c = some (.lst (ns.map V.int)) := upd_same
    generalize (upd (upd H p (.lst (ns.map V.int))) c (.lst (ns.map V.int))) = H2 at hc s2
    have s12 := s1.trans s2
    refine ⟨.ref c, rfl, c, _, rfl, .inl (SqL.of hc), 3816, _, rfl, rfl, ?_⟩
    refine ⟨.ref c, rfl, c, rfl, ⟨_, SqL.of hc⟩, for_list (K := K) (a := c) (xs := ns.map V.int) (fun i σ H3 => H3 = H2 ∧ ∃ (mk : Int) (y : Option V), 0 ≤ mk ∧ mk < 2147483647 ∧ σ = [some (.ref a), some (.ref c), some (.int mk), y]) ⟨rfl, 3816 + ((ns.map V.int).length : Int), none, ?_, ?_, rfl⟩ (fun i σ H3 _ h => ?_) (fun i x σ H3 hx h => ?_) (fun σ H3 h => ?_)⟩
    · omega
    · rw [List.length_map]; omega
    · obtain ⟨rfl, _⟩ := h; exact SqL.of hc
    · obtain ⟨rfl, mk, y, h0, h1, rfl⟩ := h
      have hx' : ∃ n, x = .int n := by
        rw [List.getElem?_map] at hx
        obtain ⟨n, _, rfl⟩ := Option.map_eq_some_iff.mp hx
        exact ⟨n, rfl⟩
      obtain ⟨n, rfl⟩ := hx'
      refine ⟨_, rfl, mk, 8191, rfl, rfl, .inr ⟨by decide, by decide⟩, .int n, rfl, n, 1000003, rfl, rfl, (by show (0 : Int) < 1000003; decide), _, _, rfl, rfl, _, 7, rfl, rfl, _, 2147483629, rfl, rfl, (by show (0 : Int) < 2147483629; decide), rfl, _, some (.int n), ?_, ?_, rfl⟩
      · exact Int.emod_nonneg _ (by decide)
      · exact Int.lt_trans (Int.emod_lt_of_pos _ (by decide)) (by decide)
    · obtain ⟨rfl, mk, y, h0, h1, rfl⟩ := h
      refine ⟨.ref c, rfl, .int mk, rfl, by show 4 ≤ sizeLine; decide, fun b nb => ?_⟩
      have nbc : b ≠ c := fun e => by rw [e, hc] at nb; cases nb
      have s3 : Same H3 (upd H3 b (.lst [.ref c, .int 0, .int 0, .int mk])) := fun x o h => by rw [upd_ne (ne_of_none h nb)]; exact h
      exact q b c mk _ (s12.trans s3) nbc upd_same (s3 _ _ hc) h0 h1

theorem c_precedes (T : Top P w K mg base tb) : Cal P w K mg base (clsOf mg tb) "precedes" 1 2 m_precedes := by
  obtain ⟨f, fd, F, hm, hb⟩ := T.d_precedes
  refine cal_of (ps := ["one", "other"]) F sc_precedes hm hb (fun cdv hcv A outer s H E bx F0 hr => ?_) (fun ds w _ => rfl)
  have px := L2N.passes_call (E := E) (L2N.takes_of (X := cxOf (L2N.CX P w) P w K mg base ["one", "other"] "precedes" (defScope s_precedes) f cdv A outer s H E) rfl rfl rfl rfl) (fun _ _ _ _ h => h)
  exact (dss_one (ds_ret (de_cmp (op_ltP (u1 hr)) (od_ltP rfl) (de_tup (da_cons (de_len rfl T.n_len (da_cons (de_var 0) da_nil)) (da_cons (de_var 0) da_nil))) (de_tup (da_cons (de_len rfl T.n_len (da_cons (de_var 1) da_nil)) (da_cons (de_var 1) da_nil))))))

theorem c_following (T : Top P w K mg base tb) : Cal P w K mg base (clsOf mg tb) "following" 1 1 m_following := by
  obtain ⟨f, fd, F, hm, hb⟩ := T.d_following
  refine cal_of (ps := ["row"]) F sc_following hm hb (fun cdv hcv A outer s H E bx F0 hr => ?_) (fun ds w _ => rfl)
  have px := L2N.passes_call (E := E) (L2N.takes_of (X := cxOf (L2N.CX P w) P w K mg base ["row", "kept"] "following" (defScope s_following) f cdv A outer s H E) rfl rfl rfl rfl) (fun _ _ _ _ h => h)
  exact (dss_cons (ds_set 1 (de_rstrip (de_var 0) de_str) sc_following.nd)
    (dss_cons (ds_if (dt_cmp (op_eqX (u64 hr)) (od_eq rfl) (de_var 1) de_str) (dss_one (ds_ret (de_op op_mulX od_mul de_str (de_op op_addX (od_add rfl) (de_len rfl T.n_len (da_cons (de_var 0) da_nil)) de_int)))) dss_nil)
    (dss_one (ds_ret (de_op op_addX (od_add rfl) (de_op op_addX (od_add rfl) (de_slice rfl (de_var 1) dp_none (dp_some (de_neg de_int))) de_str) (de_op op_mulX od_mul de_str (de_op op_sub od_sub (de_len rfl T.n_len (da_cons (de_var 0) da_nil)) (de_len rfl T.n_len (da_cons (de_var 1) da_nil)))))))))

theorem fG_rows_to (T : Top P w K mg base tb) {f : Addr} {fd : FuncData} (F : Fun K "rows_to" "rows_to" s_rows_to f fd) : GFn P w K mg base 2 f fd ["length", "start"] (spMG K (clsOf mg tb) 2 mG_rows_to) := by
  refine gfnok_of F sc_rows_to (fun cdv A outer s H E pn bx F0 hr => ?_)
  exact (dgss_cons (dgs_plain (ds_set 2 (de_var 1) sc_rows_to.nd))
    (dgss_cons (dgs_while (fun _ => 1100) owns_gcx (dt_cmp op_le od_B0 (de_len rfl T.n_len (da_cons (de_var 2) da_nil)) (de_var 0)) (dgss_cons (dgs_yield (de_var 2))
    (dgss_cons (dgs_plain (ds_set 2 (de_call rfl (c_following T) (hr.mono (by decide)) passLN (da_cons (de_var 2) da_nil)) sc_rows_to.nd))
    dgss_nil)))
    dgss_nil))
theorem fGF_rows_to (T : Top P w K mg base tb) {f : Addr} {fd : FuncData} (F : Fun K "rows_to" "rows_to" s_rows_to f fd) : GFnF P w K mg base (clsOf mg tb) 2 f fd ["length", "start"] mG_rows_to := by
  refine gfnF_of F sc_rows_to (fun _ => rfl) (fun cdv A outer n sc Sx good own fin bx hr => ?_)
  exact (fgss_cons (fgs_set (fun h0 H0 F0 => (ds_set 2 (de_var 1) sc_rows_to.nd)))
    (fgss_cons (fgs_while (fun _ => 1100) (fun h0 H0 => (dt_cmp op_le od_B0 (de_len rfl T.n_len (da_cons (de_var 2) da_nil)) (de_var 0))) (fgss_cons (fgs_yield (fun h0 H0 => (de_var 2)))
    (fgss_cons (fgs_set (fun h0 H0 F0 => (ds_set 2 (de_call rfl (c_following T) (hr.mono (by decide)) passLN (da_cons (de_var 2) da_nil)) sc_rows_to.nd)))
    fgss_nil)))
    fgss_nil))
theorem q_gd_rows_to_1 (T : Top P w K mg base tb) : CalGD P w K mg base (clsOf mg tb) "rows_to" 2 1 [(.str "")] mG_rows_to := by
  obtain ⟨f, fd, hm, F⟩ := T.dg_rows_to
  obtain ⟨ds, hv, hb⟩ := F.binds0 (ps := ["length", "start"]) 1 (by simp) rfl (fun _ _ _ _ _ _ us ks h1 h2 => match us, ks, h1, h2 with | [_], [_], _, _ => ⟨_, _, _, _, _, _, rfl, rfl, rfl⟩)
  exact ⟨f, fd, ["length", "start"], ds, _, fG_rows_to T (funD0 F), hm, F.kp, hb, hv, fun _ _ => (.cons (.str _) .nil)⟩
theorem q_gk_rows_to_1 (T : Top P w K mg base tb) : CalGK P w K mg base (clsOf mg tb) "rows_to" 2 1 ["start"] mG_rows_to := by
  obtain ⟨f, fd, hm, F⟩ := T.dg_rows_to
  obtain ⟨mv, h⟩ := F.kbinds0 (ps := ["length", "start"]) 1 ["start"] [] (fun us _ ws => us ++ ws) (by simp) (fun _ h => nomatch h) (fun a _ b => a.append b) (fun _ _ _ _ _ _ us mv ws h1 h2 h3 => match us, mv, ws, h1, h2, h3 with | [_], [], [_], _, _, _ => by first | rfl | exact ⟨_, rfl, rfl⟩)
  exact ⟨f, fd, ["length", "start"], fG_rows_to T (funD0 F), hm, F.kp, h⟩
theorem q_gkf_rows_to_1 (T : Top P w K mg base tb) : CalGFK P w K mg base (clsOf mg tb) "rows_to" 2 1 ["start"] mG_rows_to := by
  obtain ⟨f, fd, hm, F⟩ := T.dg_rows_to
  obtain ⟨mv, h⟩ := F.kbinds0 (ps := ["length", "start"]) 1 ["start"] [] (fun us _ ws => us ++ ws) (by simp) (fun _ h => nomatch h) (fun a _ b => a.append b) (fun _ _ _ _ _ _ us mv ws h1 h2 h3 => match us, mv, ws, h1, h2, h3 with | [_], [], [_], _, _, _ => by first | rfl | exact ⟨_, rfl, rfl⟩)
  exact ⟨f, fd, ["length", "start"], fGF_rows_to T (funD0 F), rfl, hm, F.kp, h⟩

theorem c_L_draw (T : Top P w K mg base tb) : Cal P w K mg base (clsOf mg tb) "_law_draw" 1 2 m_L_draw := by
  obtain ⟨f, fd, F, hm, hb⟩ := T.d_L_draw
  refine cal_of (ps := ["_law_box", "_law_many"]) F sc_L_draw hm hb (fun cdv hcv A outer s H E bx F0 hr => ?_) (fun ds w _ => rfl)
  have px := L2N.passes_call (E := E) (L2N.takes_of (X := cxOf (L2N.CX P w) P w K mg base ["_law_box", "_law_many", "_law_cell", "_law_found"] "_law_draw" (defScope s_L_draw) f cdv A outer s H E) rfl rfl rfl rfl) (fun _ _ _ _ h => h)
  exact (dss_cons (ds_if (DW.t (dw_and (dt_cmp (op_eqX (u64 hr)) (od_eq rfl) (de_bx 0 2 rfl) de_int) (dw_and1 (dt_cmp op_ltX od_lt (de_bx 0 1 rfl) (de_len rfl T.n_len (da_cons (de_bx 0 0 rfl) da_nil)))))) (dss_cons (ds_set 2 (de_ix rfl (de_bx 0 0 rfl) (de_bx 0 1 rfl)) sc_L_draw.nd)
    (dss_cons (ds_bx 0 1 (de_op op_addX (od_add rfl) (de_bx 0 1 rfl) de_int))
    (dss_one (ds_if (dt_cmp op_ge od_B0 (de_var 2) (de_op op_pow od_pow de_int de_int)) (dss_one (ds_bx 0 2 (de_var 2))) (dss_one (ds_bx 0 3 (de_op op_mod od_mod (de_op op_addX (od_add rfl) (de_op op_addX (od_add rfl) (de_op op_mulX od_mul (de_bx 0 3 rfl) de_int) (de_op op_mod od_mod (de_var 2) de_int)) (de_op op_mulX od_mul (de_bx 0 1 rfl) de_int)) de_int))))))) dss_nil)
    (dss_cons (ds_if (dt_cmp op_gt od_B0 (de_bx 0 2 rfl) de_int) (dss_cons (ds_set 3 (de_op op_mod od_mod (de_bx 0 2 rfl) (de_var 1)) sc_L_draw.nd)
    (dss_cons (ds_bx 0 2 (de_op op_fdiv od_div (de_bx 0 2 rfl) (de_var 1)))
    (dss_one (ds_ret (de_var 3))))) dss_nil)
    (dss_cons (ds_bx 0 3 (de_op op_mod od_mod (de_op op_addX (od_add rfl) (de_op op_mulX od_mul (de_bx 0 3 rfl) de_int) de_int) de_int))
    (dss_one (ds_ret (de_op op_mod od_mod (de_op op_fdiv od_div (de_op op_mod od_mod (de_op op_mulX od_mul (de_bx 0 3 rfl) (de_bx 0 3 rfl)) de_int) de_int) (de_var 1)))))))

theorem c_L_whole (T : Top P w K mg base tb) : Cal P w K mg base (clsOf mg tb) "_law_whole" 1 1 m_L_whole := by
  obtain ⟨f, fd, F, hm, hb⟩ := T.d_L_whole
  refine cal_of (ps := ["_law_found"]) F sc_L_whole hm hb (fun cdv hcv A outer s H E bx F0 hr => ?_) (fun ds w _ => rfl)
  have px := L2N.passes_call (E := E) (L2N.takes_of (X := cxOf (L2N.CX P w) P w K mg base ["_law_found"] "_law_whole" (defScope s_L_whole) f cdv A outer s H E) rfl rfl rfl rfl) (fun _ _ _ _ h => h)
  exact (dss_one (ds_ret (de_and (de_isi rfl kit_int T.n_int (by decide +kernel) T.n_isinstance (de_var 0)) (de_one (de_not (de_isi rfl kit_bool T.n_bool (by decide +kernel) T.n_isinstance (de_var 0)))))))

theorem c_L_same (T : Top P w K mg base tb) : ∀ k : Nat, Cal P w K mg base (clsOf mg tb) "_law_same" (k + 1) 2 (mSame k)
  | 0 => by
    obtain ⟨f, fd, F, hm, hb⟩ := T.d_L_same
    exact cal_of (ps := ["_law_found", "_law_due"]) (k := 0) F sc_L_same hm hb (body := fun _ _ => .bad) (fun cdv hcv A outer s H E bx F0 hr => ⟨_, pss_never, fun _ _ _ _ _ _ _ _ h => h⟩) (fun ds w h => absurd (mSame_zero ds w) h)
  | k + 1 => by
    obtain ⟨f, fd, F, hm, hb⟩ := T.d_L_same
    have ih := c_L_same T k
    refine cal_of (ps := ["_law_found", "_law_due"]) F sc_L_same hm hb (fun cdv hcv A outer s H E bx F0 hr => ?_) (same_ok k)
    have px := L2N.passes_call (E := E) (L2N.takes_of (X := cxOf (L2N.CX P w) P w K mg base ["_law_found", "_law_due", "_law_one", "_law_other"] "_law_same" (defScope s_L_same) f cdv A outer s H E) rfl rfl rfl rfl) (fun _ _ _ _ h => h)
    exact (dss_cons (ds_if (dt_cmp op_isN od_is (de_var 1) de_non) (dss_one (ds_ret (de_cmp op_isN od_is (de_var 0) de_non))) dss_nil)
    (dss_cons (ds_if (dt_val (de_isi rfl kit_bool T.n_bool (by decide +kernel) T.n_isinstance (de_var 1))) (dss_one (ds_ret (de_and (de_isi rfl kit_bool T.n_bool (by decide +kernel) T.n_isinstance (de_var 0)) (de_one (de_cmp (op_eqX (u64 hr)) (od_eq rfl) (de_var 0) (de_var 1)))))) dss_nil)
    (dss_cons (ds_if (dt_val (de_isi rfl kit_int T.n_int (by decide +kernel) T.n_isinstance (de_var 1))) (dss_one (ds_ret (de_and (de_call rfl (c_L_whole T) (hr.mono (by omega)) px (da_cons (de_var 0) da_nil)) (de_one (de_cmp (op_eqX (u64 hr)) (od_eq rfl) (de_var 0) (de_var 1)))))) dss_nil)
    (dss_cons (ds_if (dt_val (de_isi rfl kit_str T.n_str (by decide +kernel) T.n_isinstance (de_var 1))) (dss_one (ds_ret (de_and (de_isi rfl kit_str T.n_str (by decide +kernel) T.n_isinstance (de_var 0)) (de_one (de_cmp (op_eqX (u64 hr)) (od_eq rfl) (de_var 0) (de_var 1)))))) dss_nil)
    (dss_cons (ds_if (DW.t (dw_and (dt_val (de_isi rfl kit_tuple T.n_tuple (by decide +kernel) T.n_isinstance (de_var 1))) (dw_and1 (dt_not (dt_val (de_isi rfl kit_tuple T.n_tuple (by decide +kernel) T.n_isinstance (de_var 0))))))) (dss_one (ds_ret de_bl)) dss_nil)
    (dss_cons (ds_if (DW.t (dw_and (dt_val (de_isi rfl kit_list T.n_list (by decide +kernel) T.n_isinstance (de_var 1))) (dw_and1 (dt_not (dt_val (de_isi rfl kit_list T.n_list (by decide +kernel) T.n_isinstance (de_var 0))))))) (dss_one (ds_ret de_bl)) dss_nil)
    (dss_one (ds_ret (de_and (de_cmp (op_eqX (u64 hr)) (od_eq rfl) (de_len rfl T.n_len (da_cons (de_var 0) da_nil)) (de_len rfl T.n_len (da_cons (de_var 1) da_nil))) (de_one (de_all rfl rfl T.n_all (da_cons (DO.de (do_lc [("_law_one", 2), ("_law_other", 3)] rfl sc_L_same.nd (di_zip rfl T.n_zip (da_cons (de_var 0) (da_cons (de_var 1) da_nil))) (blkOk_by (own := [("_law_one", 2), ("_law_other", 3)]) (N := ["_law_found", "_law_due", "_law_one", "_law_other"]) (sc := defScope s_L_same) (by decide +kernel)) (fun _ _ _ _ _ => (dg_tup rfl (dgs_cons (dg_name 2 sc_L_same.nd) (dgs_cons (dg_name 3 sc_L_same.nd) dgs_nil)) (fun _ h => pg_tup rfl h) (gs_len (gs_len gs_len0)))) (fun _ _ _ _ _ => dts_nil) (fun _ _ _ _ _ => (de_call rfl ih (hr.mono (by omega)) passLN (da_cons (de_var 2) (da_cons (de_var 3) da_nil)))))) da_nil))))))))))))

theorem c_L_row (T : Top P w K mg base tb) : Cal P w K mg base (clsOf mg tb) "_law_row" 2 2 m_L_row := by
  obtain ⟨f, fd, F, hm, hb⟩ := T.d_L_row
  refine cal_of (ps := ["_law_box", "_law_most"]) F sc_L_row hm hb (fun cdv hcv A outer s H E bx F0 hr => ?_) (fun ds w _ => rfl)
  have px := L2N.passes_call (E := E) (L2N.takes_of (X := cxOf (L2N.CX P w) P w K mg base ["_law_box", "_law_most", "_law_lean", "_law_size", "_law_k"] "_law_row" (defScope s_L_row) f cdv A outer s H E) rfl rfl rfl rfl) (fun _ _ _ _ h => h)
  exact (dss_cons (ds_set 2 (de_call rfl (c_L_draw T) (hr.mono (by decide)) px (da_cons (de_var 0) (da_cons de_int da_nil))) sc_L_row.nd)
    (dss_cons (ds_set 3 (de_call rfl (c_L_draw T) (hr.mono (by decide)) px (da_cons (de_var 0) (da_cons (de_op op_addX (od_add rfl) (de_var 1) de_int) da_nil))) sc_L_row.nd)
    (dss_cons (ds_if (dt_cmp op_ltX od_lt (de_var 2) de_int) (dss_one (ds_ret (de_op op_mulX od_mul (de_ix rfl de_str (de_var 2)) (de_var 3)))) dss_nil)
    (dss_one (ds_ret (de_join rfl de_str (DO.de (do_lc [("_law_k", 4)] rfl sc_L_row.nd (di_range T.n_range (da_cons (de_var 3) da_nil)) (blkOk_by (own := [("_law_k", 4)]) (N := ["_law_box", "_law_most", "_law_lean", "_law_size", "_law_k"]) (sc := defScope s_L_row) (by decide +kernel)) (fun _ _ _ _ _ => (dg_name 4 sc_L_row.nd)) (fun _ _ _ _ _ => dts_nil) (fun _ _ _ _ _ => (de_ix rfl de_str (de_call rfl (c_L_draw T) (hr.mono (by decide)) passLN (da_cons (de_var 0) (da_cons de_int da_nil)))))))))))))

theorem c_L_longer (T : Top P w K mg base tb) : Cal P w K mg base (clsOf mg tb) "_law_longer" 1 1 m_L_longer := by
  obtain ⟨f, fd, F, hm, hb⟩ := T.d_L_longer
  refine cal_of (ps := ["_law_rows"]) F sc_L_longer hm hb (fun cdv hcv A outer s H E bx F0 hr => ?_) (fun ds w _ => rfl)
  have px := L2N.passes_call (E := E) (L2N.takes_of (X := cxOf (L2N.CX P w) P w K mg base ["_law_rows", "_law_found", "_law_row_here"] "_law_longer" (defScope s_L_longer) f cdv A outer s H E) rfl rfl rfl rfl) (fun _ _ _ _ h => h)
  exact (dss_cons (ds_set 1 (DO.de (do_lst da_nil)) sc_L_longer.nd)
    (dss_cons (ds_for (passes_of rfl) rfl (di_any rfl (de_var 0)) (dg_name 2 sc_L_longer.nd) (dss_one (ds_set 1 (de_op op_addX (od_add rfl) (de_var 1) (DO.de (do_lst (da_cons (de_op op_addX (od_add rfl) (de_var 2) de_str) (da_cons (de_op op_addX (od_add rfl) (de_var 2) de_str) da_nil))))) sc_L_longer.nd)))
    (dss_one (ds_ret (de_var 1)))))

theorem c_L_all_rows (T : Top P w K mg base tb) : Cal P w K mg base (clsOf mg tb) "_law_all_rows" 2 1 m_L_all_rows := by
  obtain ⟨f, fd, F, hm, hb⟩ := T.d_L_all_rows
  refine cal_of (ps := ["_law_length"]) F sc_L_all_rows hm hb (fun cdv hcv A outer s H E bx F0 hr => ?_) (fun ds w _ => rfl)
  have px := L2N.passes_call (E := E) (L2N.takes_of (X := cxOf (L2N.CX P w) P w K mg base ["_law_length", "_law_layer", "_law_found", "_law_k"] "_law_all_rows" (defScope s_L_all_rows) f cdv A outer s H E) rfl rfl rfl rfl) (fun _ _ _ _ h => h)
  exact (dss_cons (ds_par 1 2 (fun _ h => ps_par rfl sc_L_all_rows.nd rfl rfl (by decide) rfl rfl h rfl) (da_cons (DO.de (do_lst (da_cons de_str da_nil))) (da_cons (DO.de (do_lst (da_cons de_str da_nil))) da_nil)))
    (dss_cons (ds_for (passes_of rfl) rfl (di_range T.n_range (da_cons (de_var 0) da_nil)) (dg_name 3 sc_L_all_rows.nd) (dss_cons (ds_set 1 (de_call rfl (c_L_longer T) (hr.mono (by decide)) px (da_cons (de_var 1) da_nil)) sc_L_all_rows.nd)
    (dss_one (ds_set 2 (de_op op_addX (od_add rfl) (de_var 2) (de_var 1)) sc_L_all_rows.nd))))
    (dss_one (ds_ret (de_var 2)))))

theorem ok_law (T : Top P w K mg base tb) : ∃ f fd, Fun K "law" "law" s_law f fd ∧ mg "law" = some (.ref f) ∧ FnOk P w K mg base (L2N.CX P w) 10 f fd ["_law_script"] (spLaw K tb) := by
  obtain ⟨f, fd, F, hm, hb⟩ := T.d_law
  obtain ⟨fo, fdo, FO, mo, ko, bo⟩ := ok_open (P := P) (w := w) (base := base) (tb := tb) T
  refine ⟨f, fd, F, hm, law_of (cls := clsOf mg tb) (body := g_law) F sc_law ⟨_, rfl⟩ rfl (fun cdv A outer s H E hr => ps_set (i := 1) sc_law.nd rfl (.inl rfl) (pe_call FO (hr.mono (by decide)) rfl mo ko bo .nil passLN (pa_cons (pv 0) pa_nil))) (fun cdv hcv A outer s H E bx F0 H0 hcl hr => ?_) (fun w _ => law_true w)⟩
  have px := L2N.passes_call (E := E) (L2N.takes_of (X := cxOf (L2N.CX P w) P w K mg base ["_law_script", "_law_box", "_law_turn", "_law_late", "_law_most", "_law_rows", "_law_begin", "_law_due", "_law_found", "_law_row_here", "_law_one", "_law_other", "_law_first"] "law" (defScope s_law) f cdv A outer s H E) rfl rfl rfl rfl) (fun _ _ _ _ h => h)
  exact (dss_cons (ds_for (passes_of rfl) rfl (di_range T.n_range (da_cons de_int da_nil)) (dg_name 2 sc_law.nd) (dss_cons (ds_set 4 (de_call rfl (c_L_draw T) (hr.mono (by decide)) px (da_cons (de_var 1) (da_cons de_int da_nil))) sc_law.nd)
    (dss_cons (ds_set 5 (de_call rfl (c_L_all_rows T) (hr.mono (by decide)) px (da_cons (de_var 4) da_nil)) sc_law.nd)
    (dss_cons (ds_if (dt_not (dt_val (de_call rfl (c_L_same T 8) (hr.mono (by decide)) px (da_cons (DO.de (do_listGD rfl (q_gd_rows_to_1 T) (hr.mono (by decide)) T.n_list (da_cons (de_var 4) da_nil))) (da_cons (de_var 5) da_nil))))) (dss_one (ds_ret de_bl)) dss_nil)
    (dss_cons (ds_set 6 (de_call rfl (c_L_row T) (hr.mono (by decide)) px (da_cons (de_var 1) (da_cons de_int da_nil))) sc_law.nd)
    (dss_cons (ds_set 7 (de_if (dt_cmp op_le od_B0 (de_len rfl T.n_len (da_cons (de_var 6) da_nil)) (de_var 4)) (de_slice rfl (de_var 5) (dp_some (de_index2 rfl (u65 hr) (de_var 5) (de_var 6))) dp_none) (DO.de (do_lst da_nil))) sc_law.nd)
    (dss_cons (ds_setO 8 (do_lst da_nil) sc_law.nd)
    (dss_cons (ds_forA (i := 8) (passes_of rfl) rfl (hr.mono (by decide)) (pgenF_callK rfl (q_gkf_rows_to_1 T) (hr.mono (by decide)) (da_cons (de_var 4) da_nil) (dkw_cons (de_var 6) dkw_nil)) (dgx_name 9 sc_law.nd) (dex_var 9))
    (dss_cons (ds_frz 8 (ds_if (dt_not (dt_val (de_call rfl (c_L_same T 8) (hr.mono (by decide)) px (da_cons (de_var 8) (da_cons (de_var 7) da_nil))))) (dss_one (ds_ret de_bl)) dss_nil))
    (dss_cons (ds_par 10 11 (fun _ h => ps_par rfl sc_law.nd rfl rfl (by decide) rfl rfl h rfl) (da_cons (de_call rfl (c_L_row T) (hr.mono (by decide)) px (da_cons (de_var 1) (da_cons de_int da_nil))) (da_cons (de_call rfl (c_L_row T) (hr.mono (by decide)) px (da_cons (de_var 1) (da_cons de_int da_nil))) da_nil)))
    (dss_cons (ds_if (dt_cmp (op_eqX (u64 hr)) (od_eq rfl) (de_call rfl (c_L_draw T) (hr.mono (by decide)) px (da_cons (de_var 1) (da_cons de_int da_nil))) de_int) (dss_one (ds_set 11 (de_op op_addX (od_add rfl) (de_slice rfl (de_var 10) dp_none (dp_some (de_neg de_int))) de_str) sc_law.nd)) dss_nil)
    (dss_cons (ds_set 12 (de_or (de_cmp op_ltX od_lt (de_len rfl T.n_len (da_cons (de_var 10) da_nil)) (de_len rfl T.n_len (da_cons (de_var 11) da_nil))) (de_one (de_and (de_cmp (op_eqX (u64 hr)) (od_eq rfl) (de_len rfl T.n_len (da_cons (de_var 10) da_nil)) (de_len rfl T.n_len (da_cons (de_var 11) da_nil))) (de_one (de_cmp op_ltX od_lt (de_var 10) (de_var 11)))))) sc_law.nd)
    (dss_cons (ds_if (dt_not (dt_val (de_call rfl (c_L_same T 8) (hr.mono (by decide)) px (da_cons (DO.de (do_lst (da_cons (de_call rfl (c_precedes T) (hr.mono (by decide)) px (da_cons (de_var 10) (da_cons (de_var 11) da_nil))) (da_cons (de_call rfl (c_precedes T) (hr.mono (by decide)) px (da_cons (de_var 10) (da_cons (de_var 10) da_nil))) da_nil)))) (da_cons (DO.de (do_lst (da_cons (de_var 12) (da_cons de_bl da_nil)))) da_nil))))) (dss_one (ds_ret de_bl)) dss_nil)
    (dss_one (ds_if (dt_not (dt_val (de_call rfl (c_L_same T 8) (hr.mono (by decide)) px (da_cons (de_call rfl (c_precedes T) (hr.mono (by decide)) px (da_cons (de_var 11) (da_cons (de_var 10) da_nil))) (da_cons (de_and (de_not (de_var 12)) (de_one (de_cmp (op_neX (u64 hr)) (od_ne rfl) (de_var 10) (de_var 11)))) da_nil))))) (dss_one (ds_ret de_bl)) dss_nil)))))))))))))))
    (dss_cons (ds_set 3 (de_op op_mulX od_mul de_str de_int) sc_law.nd)
    (dss_one (ds_ret (de_call rfl (c_L_same T 8) (hr.mono (by decide)) px (da_cons (DO.de (do_listGK rfl (q_gk_rows_to_1 T) (hr.mono (by decide)) T.n_list (da_cons de_int da_nil) (dkw_cons (de_op op_addX (od_add rfl) (de_var 3) de_str) dkw_nil))) (da_cons (DO.de (do_lst (da_cons (de_op op_addX (od_add rfl) (de_var 3) de_str) (da_cons (de_op op_addX (od_add rfl) (de_var 3) de_str) da_nil)))) da_nil)))))))
end
theorem all_mk {l : PySem.W.OpenLaw} {w : World} {K : Fr} {h : Heap} {mg : Str → Option Value} {fa : Addr} (hl : l.prog = PySem.Challenge.pw_countedplace_k02_rows_in_order) (X : K.In h) (G : h.Ns mainGlobals mg) (hfa : mg "law" = some (.ref fa)) (S : Says tell w h K) :
    LamX.LawAtS l w K (L2N.CX l.prog w) 10 63 "_law_script" mg fa h := by
  obtain ⟨fd0, F0⟩ := S.f 0 (x := a0) rfl rfl
  obtain ⟨fd1, F1⟩ := S.f 1 (x := a1) rfl rfl
  obtain ⟨fd2, F2⟩ := S.f 2 (x := a2) rfl rfl
  obtain ⟨fd3, F3⟩ := S.fd 3 (x := a3) [] [("start", .str "")] (S.q 13 (q := c13) rfl) rfl rfl
  obtain ⟨fd4, F4⟩ := S.f 4 (x := a4) rfl rfl
  obtain ⟨fd5, F5⟩ := S.f 5 (x := a5) rfl rfl
  obtain ⟨fd6, F6⟩ := S.f 6 (x := a6) rfl rfl
  obtain ⟨fd7, F7⟩ := S.f 7 (x := a7) rfl rfl
  obtain ⟨fd8, F8⟩ := S.f 8 (x := a8) rfl rfl
  obtain ⟨fd9, F9⟩ := S.f 9 (x := a9) rfl rfl
  obtain ⟨fd10, F10⟩ := S.f 10 (x := a10) rfl rfl
  have e := hfa.symm.trans (PySem.W.mg_of X G (S.q 21 (q := c21) rfl))
  cases e
  rw [hl]
  refine ⟨fd10, [], spLaw K [], (fun _ h => nomatch h), (fun _ h => nomatch h), (fun _ h => nomatch h), fun s v => by obtain ⟨_, _, _, _, _, _, _, _, _, e, _, _⟩ := F10.ex; rw [e]; exact .of_eq rfl, fun H a ns hl _ hH hS => ⟨a, ns, rfl, hS, hl, tabs_start ((fun _ h => nomatch h)), fun _ => rfl⟩, fun base _ _ hTB => ?_⟩
  have T : Top PySem.Challenge.pw_countedplace_k02_rows_in_order w K mg base [] := ⟨PySem.W.mg_none_of X G (S.q 0 (q := c0) rfl), PySem.W.mg_none_of X G (S.q 1 (q := c1) rfl), PySem.W.mg_none_of X G (S.q 2 (q := c2) rfl), PySem.W.mg_none_of X G (S.q 3 (q := c3) rfl), PySem.W.mg_none_of X G (S.q 4 (q := c4) rfl), PySem.W.mg_none_of X G (S.q 5 (q := c5) rfl), PySem.W.mg_none_of X G (S.q 6 (q := c6) rfl), PySem.W.mg_none_of X G (S.q 7 (q := c7) rfl), PySem.W.mg_none_of X G (S.q 8 (q := c8) rfl), PySem.W.mg_none_of X G (S.q 9 (q := c9) rfl), ⟨_, _, F0, (PySem.W.mg_of X G (S.q 10 (q := c10) rfl)), F0.binds (ps := ["_law_script"]) fun _ _ _ _ _ _ us hl => match us, hl with | [_], _ => rfl⟩, ⟨_, _, F1, (PySem.W.mg_of X G (S.q 11 (q := c11) rfl)), F1.binds (ps := ["one", "other"]) fun _ _ _ _ _ _ us hl => match us, hl with | [_, _], _ => rfl⟩, ⟨_, _, F2, (PySem.W.mg_of X G (S.q 12 (q := c12) rfl)), F2.binds (ps := ["row"]) fun _ _ _ _ _ _ us hl => match us, hl with | [_], _ => rfl⟩, ⟨_, _, (PySem.W.mg_of X G (S.q 14 (q := c14) rfl)), F3⟩, ⟨_, _, F4, (PySem.W.mg_of X G (S.q 15 (q := c15) rfl)), F4.binds (ps := ["_law_box", "_law_many"]) fun _ _ _ _ _ _ us hl => match us, hl with | [_, _], _ => rfl⟩, ⟨_, _, F5, (PySem.W.mg_of X G (S.q 16 (q := c16) rfl)), F5.binds (ps := ["_law_found"]) fun _ _ _ _ _ _ us hl => match us, hl with | [_], _ => rfl⟩, ⟨_, _, F6, (PySem.W.mg_of X G (S.q 17 (q := c17) rfl)), F6.binds (ps := ["_law_found", "_law_due"]) fun _ _ _ _ _ _ us hl => match us, hl with | [_, _], _ => rfl⟩, ⟨_, _, F7, (PySem.W.mg_of X G (S.q 18 (q := c18) rfl)), F7.binds (ps := ["_law_box", "_law_most"]) fun _ _ _ _ _ _ us hl => match us, hl with | [_, _], _ => rfl⟩, ⟨_, _, F8, (PySem.W.mg_of X G (S.q 19 (q := c19) rfl)), F8.binds (ps := ["_law_rows"]) fun _ _ _ _ _ _ us hl => match us, hl with | [_], _ => rfl⟩, ⟨_, _, F9, (PySem.W.mg_of X G (S.q 20 (q := c20) rfl)), F9.binds (ps := ["_law_length"]) fun _ _ _ _ _ _ us hl => match us, hl with | [_], _ => rfl⟩, ⟨_, _, F10, (PySem.W.mg_of X G (S.q 21 (q := c21) rfl)), F10.binds (ps := ["_law_script"]) fun _ _ _ _ _ _ us hl => match us, hl with | [_], _ => rfl⟩⟩
  obtain ⟨f, fd, F, hm, hk⟩ := ok_law (P := PySem.Challenge.pw_countedplace_k02_rows_in_order) (w := w) (base := base) (tb := []) T
  rw [(PySem.W.mg_of X G (S.q 21 (q := c21) rfl))] at hm
  cases hm
  have e2 := fun_one F F10
  rw [e2] at hk
  rw [hl]
  exact hk
end Z
open PySem PySem.W PySem.Calls PyProof.Rows
set_option maxHeartbeats 0 in
theorem PySem.Challenge.cw_countedplace_k02_rows_in_order_holds : PySem.Challenge.rw_countedplace_k02_rows_in_order.Holds := by
  w_on; o_law
  refine HandSHeadRun.head_any (q := view (OpenLaw.row PySem.Challenge.rw_countedplace_k02_rows_in_order).prog [12]) (H := Z.hk) (ob := Y.obY 6 Z.tell) (M := 20000) (loose := Z.loose) (d := HandSHeadRun.topDef (OpenLaw.row PySem.Challenge.rw_countedplace_k02_rows_in_order).prog 12) (kwd := []) Y.obY_eq (by kernel_rfl) (fun s => by kernel_rfl) Z.run (by kernel_rfl) (by kernel_rfl) (by kernel_rfl) (by rfl) (by first | assumption | decide +kernel) (by decide +kernel) ⟨rfl, rfl, rfl, rfl, rfl, by decide +kernel⟩ ?hw ?hc
  case hc => exact LamX.walk_ofTsE (l := PySem.Challenge.rw_countedplace_k02_rows_in_order) (n := 63) (k := 10) (x := "_law_script") (CX := fun w => L2N.CX PySem.Challenge.rw_countedplace_k02_rows_in_order.prog w) rfl (by decide) (by kernel_rfl) ⟨rfl, by decide, by decide⟩ (fun w mg fa h ⟨K, KX, S⟩ G hm => ⟨K, KX, Z.all_mk rfl KX G (Y.name_eq (by kernel_rfl) hm) S⟩) (fun _ _ _ _ _ h => Y.cx_false h)
  case hw => w_witness2
