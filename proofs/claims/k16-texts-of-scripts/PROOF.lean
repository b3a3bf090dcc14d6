import PyProof.Rows.All
import Wide.All
import OpenK.AllK
import Wide.FinOn
import HandS.ForMost
import HandS.ForExc
import HandS.TupAny
import HandS.Deep
import HandS.StrMore
import HandS.IsInst
import HandS.Zip
import HandS.Style
import HandS.Star
import KE.GoesMore
import KE.KRevSl
import HandS.Property
import HandS.ClsMeth
import HandS.More
import HandS.OwnEq
import HandS.Nested
import KE.KSuper
import KE.RegKSuper
import HandS.NoneIn
import HandS.Codes
import KE.KOpsOwn
import KE.KTupSum
import HandS.Lambda
import HandS.EndTab
import KE.KExcHand
import HandS.ExcInit
import HandS.ExcField
import HandS.Head2
import HandS.HeadEnd
import HandS.HeadWalk
import HandS.HeadHook4
import HandS.TryOnly
import KE.LtSeq
import KE.KDflt
import HandS.FStr
import HandS.StrSplit
import HandS.ForDict
import HandS.Conv
import HandS.Flow
import HandS.MakeKw
import HandS.ExcCtx
import HandS.GenList
import HandS.Finally
import HandS.HotCalls
import HandS.SuiteRaise
import HandS.RaiseFrom
import KE.KExcRaise
import KE.KExcInit
import PyProof.ExcBaseAll.LookupError
import PyProof.ExcBaseAll.IndexError
import PyProof.FString3
import PyProof.Rows.StrIntSpec
import KE.KxField
import HandS.MakeKwOnly
import PyProof.EqAt
import PyProof.NeKinds
import PySem.Challenge.RW_countedplace_k16_texts_of_scripts
set_option Elab.async false
set_option linter.all false
set_option maxRecDepth 100000
set_option maxHeartbeats 4000000
set_option autoImplicit false
namespace Y
open PySem PySem.Spec PyProof.Rows L2
abbrev Fr := PySem.W.Frag
/-- a function of the top: where it lies, its two names, its statement, the names of its closure -/
structure FnA where
  ad : Fr → Addr
  nam : Str
  qua : Str
  st : Stmt
  clo : List Str := []
  dfl : Bool := false
abbrev FnO : Type := Option ((Str × Str) × (Arguments × FuncBody × Scope) × (Addr × Addr) × List Str)
def seeF (K : Fr) (a : Addr) : FnO := match K.lookup a with
  | some ⟨_, _, .func d, _⟩ => some ((d.name, d.qualname), (d.params, d.body, d.scope), (d.globals, d.builtins), d.closure.map Prod.fst)
  | _ => none
def FnA.due (x : FnA) : FnO := some ((x.nam, x.qua), (defArgs x.st, .stmts (defBody x.st), defScope x.st), (mainGlobals, builtinsNs), x.clo)
def FnA.ok (K : Fr) (x : FnA) : Bool := match K.lookup (x.ad K) with
  | some ⟨_, _, .func d, _⟩ => PySem.W.codeIn K d.code x.qua && ((x.dfl || decide (d.defaults = .none)) && PySem.W.keepIn K (.ref (x.ad K)))
  | _ => false
/-- two looks that must agree -/
structure Qy where
  α : Type
  dec : DecidableEq α
  l : Fr → α
  r : Fr → α
def Qy.ok (K : Fr) (q : Qy) : Bool := @decide _ (q.dec (q.l K) (q.r K))
theorem Qy.says {K : Fr} {q : Qy} (h : q.ok K = true) : q.l K = q.r K := @of_decide_eq_true _ (q.dec (q.l K) (q.r K)) h
abbrev qy {α : Type} [d : DecidableEq α] (l r : Fr → α) : Qy := ⟨α, d, l, r⟩
abbrev qb (l : Fr → Bool) : Qy := ⟨Bool, inferInstance, l, fun _ => true⟩
/-- what is told of a head -/
structure Tell where
  fns : List FnA
  tab : List He.Tab
  lam : List Str
  chk : List Qy
def lamOk (g : Addr → Option Obj) (K : Fr) (x : Str) : Bool := match PySem.W.tabIn K x with
  | some (c, P) => PySem.W.codeHdIn K c P && (match g P with
    | some o => He.emptyTab o
    | none => false)
  | none => false
abbrev AlY : Type := List FnO × List (Option (List (Option (Str × Int)))) × Bool
def Tell.see (T : Tell) (g : Addr → Option Obj) (K : Fr) : AlY :=
  (T.fns.map fun x => seeF K (x.ad K), T.tab.map fun t => He.dicW K (t.1 K), T.fns.all (FnA.ok K) && (T.chk.all (Qy.ok K) && T.lam.all (lamOk g K)))
def Tell.due (T : Tell) (w : World) : AlY := (T.fns.map FnA.due, T.tab.map fun t => some (He.keysIn w.params t.2), true)
/-- a part of the heap, laid out before it is looked at -/
def frc {α : Type} : Fr → (Fr → α) → α
  | [], k => k []
  | (a, ⟨c, d, t, s⟩) :: r, k => HandSHeadRun.frNat a fun a => frc r fun r => k ((a, ⟨c, d, t, s⟩) :: r)
theorem frc_eq {α : Type} : ∀ (K : Fr) (k : Fr → α), frc K k = k K
  | [], _ => rfl
  | (a, ⟨c, d, t, s⟩) :: r, k => by
    show HandSHeadRun.frNat a (fun a => frc r fun r => k ((a, ⟨c, d, t, s⟩) :: r)) = _
    rw [HandSHeadRun.frNat_eq, frc_eq r]
/-- what an object leads to, as far as a head is asked of it -/
def nextO (o : Obj) : List Addr := match o.data with
  | .dict es _ => es.toList.flatMap fun e => He.refV e.val
  | .func d => He.refV d.code ++ (He.refV d.defaults ++ (He.refV d.kwdefaults ++ d.closure.map Prod.snd))
  | .cls cd => [cd.ns]
  | .fields vs => (match o.cls with
    | .type "code" => []
    | _ => vs.toList.flatMap He.refV)
  | _ => []
def nextA (g : Addr → Option Obj) (a : Addr) : List Addr := match g a with
  | some o => nextO o
  | none => []
def reach (g : Addr → Option Obj) : Nat → List Addr → List Addr
  | 0, _ => []
  | n + 1, as => as.flatMap (nextA g) ++ reach g n (as.flatMap (nextA g))
def parts (g : Addr → Option Obj) (n : Nat) : Fr := He.frT g (mainGlobals :: cStatics :: reach g n [mainGlobals])
structure Says (T : Tell) (w : World) (h : Heap) (K : Fr) : Prop where
  fn : T.fns.map (fun x => seeF K (x.ad K)) = T.fns.map FnA.due
  fo : ∀ x ∈ T.fns, FnA.ok K x = true
  tb : T.tab.map (fun t => He.dicW K (t.1 K)) = T.tab.map fun t => some (He.keysIn w.params t.2)
  ck : ∀ q ∈ T.chk, Qy.ok K q = true
  lm : ∀ x ∈ T.lam, ∃ c P, PySem.W.tabIn K x = some (c, P) ∧ PySem.W.codeHdIn K c P = true ∧ K.lookup P = none ∧ h.get? P = some { cls := .none, data := .fields #[] }
def hookY (n : Nat) (T : Tell) : PySem.W.Hook where
  α := AlY
  obs := fun s => T.see s.heap.get? (parts s.heap.get? n)
  val := fun w => T.due w
  says := fun w h => ∃ K : Fr, K.In h ∧ Says T w h K
  of := fun w s e => by
    refine ⟨parts s.heap.get? n, He.frT_in, ?_⟩
    have e1 := congrArg (fun z : AlY => z.1) e
    have e2 := congrArg (fun z : AlY => z.2.1) e
    have e3 := congrArg (fun z : AlY => z.2.2) e
    have e3 : (T.fns.all (FnA.ok _) && (T.chk.all (Qy.ok _) && T.lam.all (lamOk s.heap.get? (parts s.heap.get? n)))) = true := e3
    obtain ⟨e4, e5⟩ := He.ba e3
    obtain ⟨e6, e7⟩ := He.ba e5
    refine ⟨e1, List.all_eq_true.mp e4, e2, List.all_eq_true.mp e6, fun x hx => ?_⟩
    have h7 := List.all_eq_true.mp e7 x hx
    unfold lamOk at h7
    cases q : PySem.W.tabIn (parts s.heap.get? n) x with
    | none => rw [q] at h7; cases h7
    | some cp =>
      obtain ⟨c, P⟩ := cp
      rw [q] at h7
      obtain ⟨h8, h9⟩ := He.ba h7
      cases q2 : s.heap.get? P with
      | none => rw [q2] at h9; cases h9
      | some o =>
        rw [q2] at h9
        exact ⟨c, P, rfl, h8, He.frT_none q2 h9, by rw [q2, He.emptyTab_eq h9]⟩
  keeps := fun w h h' ⟨K, hK, c⟩ k => ⟨K, PySem.W.Frag.In.keeps hK k, c.fn, c.fo, c.tb, c.ck, fun x hx => by
    obtain ⟨a, P, h1, h2, h3, h4⟩ := c.lm x hx
    exact ⟨a, P, h1, h2, h3, k _ _ h4⟩⟩
/-- the same, off the tree -/
def obY (n : Nat) (T : Tell) (s : PySem.W.SharedT) : AlY := frc (parts (HandSHeadRun.getT s) n) (T.see (HandSHeadRun.getT s))
theorem obY_eq {n : Nat} {T : Tell} (s : PySem.W.SharedT) : obY n T s = (hookY n T).obs s.abs := by
  have e : HandSHeadRun.getT s = s.abs.heap.get? := funext (HandSHeadRun.getT_eq s)
  unfold obY
  rw [frc_eq, e] <;> rfl
def cellV (K : Fr) (cc : Addr) : Addr := match K.lookup cc with
  | some ⟨_, _, .cell (some (.ref d)), _⟩ => d
  | _ => 0
def supA (K : Fr) (f : Addr) : Addr := match K.lookup f with
  | some ⟨_, _, .func d, _⟩ => (match d.closure with
    | [(_, cc)] => cellV K cc
    | _ => 0)
  | _ => 0
def propF (K : Fr) (p : Addr) (t : String) : Addr := match PySem.W.recIn K p t with
  | some (.ref f :: _) => f
  | _ => 0
def propR (K : Fr) (p : Addr) (t : String) : List Value := match PySem.W.recIn K p t with
  | some (_ :: r) => r
  | _ => []
def isGet (K : Fr) (C : Addr) (m : Str) (p : Addr) (b : String) : Bool := match PySem.W.findCls K (.ref C) (.type "type") m with
  | some (.get (.builtin z) (.ref q) .none (.ref D)) => decide (z = b) && (decide (q = p) && decide (D = C))
  | _ => false
def isVal (K : Fr) (C : Addr) (m : Str) (i : Int) : Bool := match PySem.W.findCls K (.ref C) (.type "type") m with
  | some (.val (.int j _)) => decide (j = i)
  | _ => false
def lamC (K : Fr) (x : Str) : Addr := match PySem.W.tabIn K x with
  | some (c, _) => c
  | none => 0
def lamP (K : Fr) (x : Str) : Addr := match PySem.W.tabIn K x with
  | some (_, p) => p
  | none => 0
end Y
namespace Y
open PySem PySem.Spec PyProof.Rows L2
def kvOfI (e : DictEntry) : Option (Str × Int) := match e.key, e.val with
  | .str k _, .int v _ => some (k, v)
  | _, _ => none
def kvsOkI (K : Fr) (x : Str) (t : List (Str × Int)) : Bool := match K.lookup (He.ga K x) with
  | some ⟨_, _, .dict es _, _⟩ => decide (es.toList.map kvOfI = t.map some)
  | _ => false
/-- own classes, then the base's mro -/
def refsT (tl : List Value) : List Value → Bool
  | .ref _ :: r => refsT tl r
  | l => l == tl
/-- an own class of exceptions over a base -/
def oexGB (nw : String) (tl : List Value) (K : Fr) (C : Addr) : Bool := match K.lookup C with
  | some ⟨.type t, _, .cls cd, sl⟩ => decide (t = "type") && (cd.hasDict && (!cd.hasDel && ((match cd.mro with
      | .ref C' :: bm => decide (C' = C) && refsT tl bm
      | _ => false) && (match sl.toList with
      | [_, _, _, _, some (.builtin n), _] => decide (n = nw)
      | _ => false))))
  | _ => false
end Y
namespace Y
open PySem PySem.Spec PySem.W HandSHeadRun
theorem map3 {α β γ δ : Type} {o : Option α} {f : α → β} {g : α → γ} {h : α → δ} {b : β} {c : γ} {d : δ} (h1 : o.map (fun s => (f s, g s)) = some (b, c)) (h2 : o.map h = some d) : o.map (fun s => (f s, g s, h s)) = some (b, c, d) := by
  cases o with
  | none => cases h1
  | some s =>
    injection h1 with h1
    injection h2 with h2
    injection h1 with h1 h3
    show some (f s, g s, h s) = _
    rw [h1, h3, h2]
def RunL (r : OpenRow) (q : Program) (M : Nat) (loose : List PySem.Str) (w : World) : Prop :=
  ∀ os : OsState, (endF (stepQ (denQ tabQ) r.prog w) M r.prog w os).map (fun s => (looksF r.prog (boot_heap w.params) s.abs, seenQ q loose (importedModules r.prog.main.body) (fun s => xlAt q [] s && recOk r.toRowW.records s) s.abs)) = some (true, openGood q loose)
def RunO (r : OpenRow) (H : Hook) (ob : SharedT → H.α) (M : Nat) (w : World) : Prop :=
  ∀ os : OsState, (endF (stepQ (denQ tabQ) r.prog w) M r.prog w os).map ob = some (H.val w)
theorem runEq_of {r : OpenRow} {q : Program} {H : Hook} {ob : SharedT → H.α} {M : Nat} {loose : List PySem.Str} {w : World} (h1 : RunL r q M loose w) (h2 : RunO r H ob M w) : RunEq r q H ob M loose w := fun os => map3 (h1 os) (h2 os)
def Tell.a (T : Tell) : Tell := ⟨T.fns, T.tab, T.lam, []⟩
def Tell.b (T : Tell) : Tell := ⟨[], [], [], T.chk⟩
theorem obY_cut {n : Nat} {T : Tell} {s : SharedT} {w : World} (h1 : obY n T.a s = T.a.due w) (h2 : obY n T.b s = T.b.due w) : obY n T s = T.due w := by
  unfold obY at h1 h2 ⊢
  rw [frc_eq] at h1 h2 ⊢
  have e1 := congrArg (fun z : AlY => z.1) h1
  have e2 := congrArg (fun z : AlY => z.2.1) h1
  have e3 : (T.fns.all (FnA.ok _) && (true && T.lam.all (lamOk _ _))) = true := congrArg (fun z : AlY => z.2.2) h1
  have e4 : (true && (T.chk.all (Qy.ok _) && true)) = true := congrArg (fun z : AlY => z.2.2) h2
  rw [Bool.true_and] at e3 e4
  rw [Bool.and_true] at e4
  obtain ⟨e5, e6⟩ := He.ba e3
  refine Prod.ext e1 (Prod.ext e2 ?_)
  show (T.fns.all (FnA.ok _) && (T.chk.all (Qy.ok _) && T.lam.all (lamOk _ _))) = true
  rw [e5, e6, e4]; rfl
theorem runO_of {r : OpenRow} {n M : Nat} {T : Tell} {w : World} (h1 : RunO r (hookY n T.a) (obY n T.a) M w) (h2 : RunO r (hookY n T.b) (obY n T.b) M w) : RunO r (hookY n T) (obY n T) M w := fun os => by
  have a := h1 os
  have b := h2 os
  cases q : endF (stepQ (denQ tabQ) r.prog w) M r.prog w os with
  | none => rw [q] at a; cases a
  | some s =>
    rw [q] at a b
    injection a with a
    injection b with b
    exact congrArg some (obY_cut a b)
end Y
namespace Y
open PySem PySem.Spec PySem.W HandSHeadRun
end Y
namespace Z
open PySem PySem.Spec PyProof.Rows L2 Y
def topS (i : Nat) : Stmt := PySem.Challenge.pw_countedplace_k16_texts_of_scripts.main.body.getD i (.Pass ⟨0, 0, 0, 0⟩)
abbrev s_L_open : Stmt := topS 51
abbrev s_ParseError___init__ : Stmt := inClass (topS 20) 0
abbrev s_InvalidEdit___init__ : Stmt := inClass (topS 5) 0
abbrev s_TooLong___init__ : Stmt := inClass (topS 6) 0
abbrev s_L_refused : Stmt := topS 56
abbrev s_format_edit : Stmt := topS 39
abbrev s_places : Stmt := topS 36
abbrev s_shelf : Stmt := topS 37
abbrev s_L_spelled : Stmt := topS 60
abbrev s_Script___len__ : Stmt := inClass (topS 49) 3
abbrev s_Script_edits : Stmt := inClass (topS 49) 10
abbrev s_is_symbol : Stmt := topS 33
abbrev s_is_place : Stmt := topS 34
abbrev s_is_edit : Stmt := topS 35
abbrev s_Script___init__ : Stmt := inClass (topS 49) 1
abbrev s_parse_edit : Stmt := topS 40
abbrev s_Script_read : Stmt := inClass (topS 49) 2
abbrev s_Script_text : Stmt := inClass (topS 49) 11
abbrev s_L_draw : Stmt := topS 52
abbrev s_L_any : Stmt := topS 53
abbrev s_L_place : Stmt := topS 57
abbrev s_L_edit : Stmt := topS 58
abbrev s_L_edits : Stmt := topS 59
abbrev s_L_whole : Stmt := topS 54
abbrev s_L_same : Stmt := topS 55
abbrev s_Script___add__ : Stmt := inClass (topS 49) 7
abbrev s_L_script : Stmt := topS 62
abbrev s_L_spelled_all : Stmt := topS 61
abbrev s_law : Stmt := topS 63
def isg_Script : List (Str × Bool) := [("Script", true)]
def refTbl : List (Str × Str) := [("InvalidEdit", "at"), ("ParseError", "at"), ("TooLong", "most")]
abbrev c0 : Qy := qy (fun K => PySem.W.nsIn K mainGlobals "all") (fun K => some none)
abbrev c1 : Qy := qy (fun K => PySem.W.nsIn K mainGlobals "bool") (fun K => some none)
abbrev c2 : Qy := qy (fun K => PySem.W.nsIn K mainGlobals "enumerate") (fun K => some none)
abbrev c3 : Qy := qy (fun K => PySem.W.nsIn K mainGlobals "int") (fun K => some none)
abbrev c4 : Qy := qy (fun K => PySem.W.nsIn K mainGlobals "isinstance") (fun K => some none)
abbrev c5 : Qy := qy (fun K => PySem.W.nsIn K mainGlobals "len") (fun K => some none)
abbrev c6 : Qy := qy (fun K => PySem.W.nsIn K mainGlobals "list") (fun K => some none)
abbrev c7 : Qy := qy (fun K => PySem.W.nsIn K mainGlobals "range") (fun K => some none)
abbrev c8 : Qy := qy (fun K => PySem.W.nsIn K mainGlobals "str") (fun K => some none)
abbrev c9 : Qy := qy (fun K => PySem.W.nsIn K mainGlobals "tuple") (fun K => some none)
abbrev c10 : Qy := qy (fun K => PySem.W.nsIn K mainGlobals "zip") (fun K => some none)
abbrev c11 : Qy := qy (fun K => PySem.W.nsIn K mainGlobals "ENDS") (fun K => some (some (.ref (He.ga K "ENDS"))))
abbrev c12 : Qy := qb (fun K => He.tupB K "ENDS" [.str "front", .str "back"])
abbrev c13 : Qy := qy (fun K => PySem.W.nsIn K mainGlobals "NUMBERS") (fun K => some (some (.ref (He.ga K "NUMBERS"))))
abbrev c14 : Qy := qb (fun K => He.tupB K "NUMBERS" [.int 1, .int 2])
abbrev c15 : Qy := qb (fun K => (He.Fa.str "SYMBOLS" "ab").ok K)
abbrev c16 : Qy := qb (fun K => PySem.W.readsIn K (He.ga K "Script") (.type "type"))
abbrev c17 : Qy := qy (fun K => PySem.W.specialIn K (.ref (He.ga K "Script")) "__getattribute__") (fun K => some (some (.builtin "type.__getattribute__")))
abbrev c18 : Qy := qb (fun K => isGet K (He.ga K "Script") "read" (He.ma K (He.ga K "Script") "read") "classmethod.__get__")
abbrev c19 : Qy := qy (fun K => PySem.W.recIn K (He.ma K (He.ga K "Script") "read") "classmethod") (fun K => some (.ref (propF K (He.ma K (He.ga K "Script") "read") "classmethod") :: propR K (He.ma K (He.ga K "Script") "read") "classmethod"))
abbrev c20 : Qy := qy (fun K => PySem.W.nsIn K mainGlobals "Script") (fun K => some (some (.ref (He.ga K "Script"))))
abbrev c21 : Qy := qb (fun K => PySem.W.fnIn K (propF K (He.ma K (He.ga K "Script") "read") "classmethod"))
abbrev c22 : Qy := qy (fun K => PySem.W.kitOne K (.ref (He.ga K "Script")) (.ref (He.ga K "Script"))) (fun K => some true)
abbrev c23 : Qy := qy (fun K => PySem.W.findIn K (.ref (He.ga K "Script")) "__class__") (fun K => some (some (.builtin "object.__class__")))
abbrev c24 : Qy := qy (fun K => PySem.W.specialIn K (.builtin "object.__class__") "__get__") (fun K => some (some (.builtin "getset_descriptor.__get__")))
abbrev c25 : Qy := qy (fun K => PySem.W.takesIn K (.builtin "object.__class__")) (fun K => some true)
abbrev c26 : Qy := qy (fun K => PySem.W.mroIn K (He.ga K "Script") (.type "object")) (fun K => some true)
abbrev c27 : Qy := qb (fun K => PySem.W.plainGet K (He.ga K "Script") Str.empty)
abbrev c28 : Qy := qb (fun K => PySem.W.hasDictIn K (He.ga K "Script"))
abbrev c29 : Qy := qb (fun K => PySem.W.plainOver K (He.ga K "Script"))
abbrev c30 : Qy := qy (fun K => PySem.W.findIn K (.ref (He.ga K "Script")) "__setattr__") (fun K => some (some (.builtin "object.__setattr__")))
abbrev c31 : Qy := qy (fun K => PySem.W.kitOne K (.type "NoneType") (.ref (He.ga K "Script"))) (fun K => some false)
abbrev c32 : Qy := qy (fun K => PySem.W.kitOne K (.type "bool") (.ref (He.ga K "Script"))) (fun K => some false)
abbrev c33 : Qy := qy (fun K => PySem.W.kitOne K (.type "int") (.ref (He.ga K "Script"))) (fun K => some false)
abbrev c34 : Qy := qy (fun K => PySem.W.kitOne K (.type "str") (.ref (He.ga K "Script"))) (fun K => some false)
abbrev c35 : Qy := qy (fun K => PySem.W.kitOne K (.type "list") (.ref (He.ga K "Script"))) (fun K => some false)
abbrev c36 : Qy := qy (fun K => PySem.W.kitOne K (.type "tuple") (.ref (He.ga K "Script"))) (fun K => some false)
abbrev c37 : Qy := qy (fun K => PySem.W.findIn K (.ref (He.ga K "Script")) "text") (fun K => some (some (.ref (He.ma K (He.ga K "Script") "text"))))
abbrev c38 : Qy := qb (fun K => PySem.W.isFn K (.ref (He.ma K (He.ga K "Script") "text")))
abbrev c39 : Qy := qy (fun K => PySem.W.findIn K (.ref (He.ga K "Script")) "edits") (fun K => some (some (.ref (He.ma K (He.ga K "Script") "edits"))))
abbrev c40 : Qy := qb (fun K => PySem.W.isFn K (.ref (He.ma K (He.ga K "Script") "edits")))
abbrev c41 : Qy := qy (fun K => PySem.W.nsIn K mainGlobals "NothingLeft") (fun K => some (some (.ref (He.ga K "NothingLeft"))))
abbrev c42 : Qy := qy (fun K => PySem.W.nsIn K mainGlobals "InvalidCommand") (fun K => some (some (.ref (He.ga K "InvalidCommand"))))
abbrev c43 : Qy := qy (fun K => PySem.W.nsIn K mainGlobals "Carried") (fun K => some (some (.ref (He.ga K "Carried"))))
abbrev c44 : Qy := qy (fun K => PySem.W.nsIn K mainGlobals "UnknownVersion") (fun K => some (some (.ref (He.ga K "UnknownVersion"))))
abbrev c45 : Qy := qy (fun K => PySem.W.nsIn K mainGlobals "Untraced") (fun K => some (some (.ref (He.ga K "Untraced"))))
abbrev c46 : Qy := qy (fun K => PySem.W.nsIn K mainGlobals "UnknownName") (fun K => some (some (.ref (He.ga K "UnknownName"))))
abbrev c47 : Qy := qy (fun K => PySem.W.nsIn K mainGlobals "OrderMatters") (fun K => some (some (.ref (He.ga K "OrderMatters"))))
abbrev c48 : Qy := qy (fun K => PySem.W.nsIn K mainGlobals "NoCarry") (fun K => some (some (.ref (He.ga K "NoCarry"))))
abbrev c49 : Qy := qy (fun K => PySem.W.nsIn K mainGlobals "DuplicateName") (fun K => some (some (.ref (He.ga K "DuplicateName"))))
abbrev c50 : Qy := qy (fun K => PySem.W.nsIn K mainGlobals "InvalidName") (fun K => some (some (.ref (He.ga K "InvalidName"))))
abbrev c51 : Qy := qy (fun K => PySem.W.nsIn K mainGlobals "Different") (fun K => some (some (.ref (He.ga K "Different"))))
abbrev c52 : Qy := qy (fun K => PySem.W.nsIn K mainGlobals "Conflicting") (fun K => some (some (.ref (He.ga K "Conflicting"))))
abbrev c53 : Qy := qy (fun K => PySem.W.nsIn K mainGlobals "CapacityExceeded") (fun K => some (some (.ref (He.ga K "CapacityExceeded"))))
abbrev c54 : Qy := qy (fun K => PySem.W.nsIn K mainGlobals "TooLong") (fun K => some (some (.ref (He.ga K "TooLong"))))
abbrev c55 : Qy := qy (fun K => PySem.W.nsIn K mainGlobals "ParseError") (fun K => some (some (.ref (He.ga K "ParseError"))))
abbrev c56 : Qy := qy (fun K => PySem.W.nsIn K mainGlobals "Conflict") (fun K => some (some (.ref (He.ga K "Conflict"))))
abbrev c57 : Qy := qy (fun K => PySem.W.nsIn K mainGlobals "InvalidEdit") (fun K => some (some (.ref (He.ga K "InvalidEdit"))))
abbrev c58 : Qy := qy (fun K => PySem.W.nsIn K mainGlobals "InvalidLimit") (fun K => some (some (.ref (He.ga K "InvalidLimit"))))
abbrev c59 : Qy := qy (fun K => PySem.W.nsIn K mainGlobals "Mismatch") (fun K => some (some (.ref (He.ga K "Mismatch"))))
abbrev c60 : Qy := qy (fun K => PySem.W.nsIn K mainGlobals "InvalidRow") (fun K => some (some (.ref (He.ga K "InvalidRow"))))
abbrev c61 : Qy := qy (fun K => PySem.W.findIn K (.ref (He.ga K "TooLong")) "__getattribute__") (fun K => some (some (.builtin "BaseException.__getattribute__")))
abbrev c62 : Qy := qy (fun K => PySem.W.findIn K (.ref (He.ga K "TooLong")) "__getattr__") (fun K => some none)
abbrev c63 : Qy := qy (fun K => PySem.W.subIn K (.ref (He.ga K "TooLong")) (.type "BaseException")) (fun K => some true)
abbrev c64 : Qy := qb (fun K => PySem.W.hasDictIn K (He.ga K "TooLong"))
abbrev c65 : Qy := qy (fun K => PySem.W.findIn K (.ref (He.ga K "TooLong")) "tag") (fun K => some none)
abbrev c66 : Qy := qy (fun K => PySem.W.findIn K (.ref (He.ga K "TooLong")) "most") (fun K => some none)
abbrev c67 : Qy := qy (fun K => PySem.W.exmAny K (.ref (He.ga K "TooLong")) [.ref (He.ga K "InvalidRow"), .ref (He.ga K "Mismatch"), .ref (He.ga K "InvalidLimit")]) (fun K => some false)
abbrev c68 : Qy := qy (fun K => PySem.W.exmAny K (.ref (He.ga K "TooLong")) [.ref (He.ga K "InvalidEdit"), .ref (He.ga K "Conflict"), .ref (He.ga K "ParseError")]) (fun K => some false)
abbrev c69 : Qy := qy (fun K => PySem.W.exmAny K (.ref (He.ga K "TooLong")) [.ref (He.ga K "TooLong"), .ref (He.ga K "CapacityExceeded")]) (fun K => some true)
abbrev c70 : Qy := qy (fun K => PySem.W.findIn K (.ref (He.ga K "ParseError")) "__getattribute__") (fun K => some (some (.builtin "BaseException.__getattribute__")))
abbrev c71 : Qy := qy (fun K => PySem.W.findIn K (.ref (He.ga K "ParseError")) "__getattr__") (fun K => some none)
abbrev c72 : Qy := qy (fun K => PySem.W.subIn K (.ref (He.ga K "ParseError")) (.type "BaseException")) (fun K => some true)
abbrev c73 : Qy := qb (fun K => PySem.W.hasDictIn K (He.ga K "ParseError"))
abbrev c74 : Qy := qy (fun K => PySem.W.findIn K (.ref (He.ga K "ParseError")) "tag") (fun K => some none)
abbrev c75 : Qy := qy (fun K => PySem.W.findIn K (.ref (He.ga K "ParseError")) "at") (fun K => some none)
abbrev c76 : Qy := qy (fun K => PySem.W.exmAny K (.ref (He.ga K "ParseError")) [.ref (He.ga K "InvalidRow"), .ref (He.ga K "Mismatch"), .ref (He.ga K "InvalidLimit")]) (fun K => some false)
abbrev c77 : Qy := qy (fun K => PySem.W.exmAny K (.ref (He.ga K "ParseError")) [.ref (He.ga K "InvalidEdit"), .ref (He.ga K "Conflict"), .ref (He.ga K "ParseError")]) (fun K => some true)
abbrev c78 : Qy := qy (fun K => PySem.W.findIn K (.ref (He.ga K "InvalidEdit")) "__getattribute__") (fun K => some (some (.builtin "BaseException.__getattribute__")))
abbrev c79 : Qy := qy (fun K => PySem.W.findIn K (.ref (He.ga K "InvalidEdit")) "__getattr__") (fun K => some none)
abbrev c80 : Qy := qy (fun K => PySem.W.subIn K (.ref (He.ga K "InvalidEdit")) (.type "BaseException")) (fun K => some true)
abbrev c81 : Qy := qb (fun K => PySem.W.hasDictIn K (He.ga K "InvalidEdit"))
abbrev c82 : Qy := qy (fun K => PySem.W.findIn K (.ref (He.ga K "InvalidEdit")) "tag") (fun K => some none)
abbrev c83 : Qy := qy (fun K => PySem.W.findIn K (.ref (He.ga K "InvalidEdit")) "at") (fun K => some none)
abbrev c84 : Qy := qy (fun K => PySem.W.exmAny K (.ref (He.ga K "InvalidEdit")) [.ref (He.ga K "InvalidRow"), .ref (He.ga K "Mismatch"), .ref (He.ga K "InvalidLimit")]) (fun K => some false)
abbrev c85 : Qy := qy (fun K => PySem.W.exmAny K (.ref (He.ga K "InvalidEdit")) [.ref (He.ga K "InvalidEdit"), .ref (He.ga K "Conflict"), .ref (He.ga K "ParseError")]) (fun K => some true)
abbrev c86 : Qy := qy (fun K => PySem.W.nsIn K mainGlobals "_law_refused") (fun K => some (some (.ref (He.ga K "_law_refused"))))
abbrev c87 : Qy := qy (fun K => PySem.W.findIn K (.ref (He.ga K "Script")) "__len__") (fun K => some (some (.ref (He.ma K (He.ga K "Script") "__len__"))))
abbrev c88 : Qy := qb (fun K => PySem.W.isFn K (.ref (He.ma K (He.ga K "Script") "__len__")))
abbrev c89 : Qy := qy (fun K => PySem.W.findIn K (.ref (He.ga K "Script")) "kept") (fun K => some none)
abbrev c90 : Qy := qy (fun K => PySem.W.exmAny K (.ref (He.ga K "ParseError")) [.ref (He.ga K "ParseError")]) (fun K => some true)
abbrev c91 : Qy := qb (fun K => oexGB "ValueError.__new__" [.type "ValueError", .type "Exception", .type "BaseException", .type "object"] K (He.ga K "ParseError"))
abbrev c92 : Qy := qy (fun K => PySem.W.findIn K (.ref (He.ga K "ParseError")) "__setattr__") (fun K => some (some (.builtin "object.__setattr__")))
abbrev c93 : Qy := qy (fun K => PySem.W.typeIn K (.ref (He.ga K "ParseError"))) (fun K => some (.type "type"))
abbrev c94 : Qy := qb (fun K => PySem.W.keepIn K (.ref (He.ga K "ParseError")))
abbrev c95 : Qy := qy (fun K => PySem.W.findIn K (.ref (He.ga K "ParseError")) "__init__") (fun K => some (some (.ref (He.ma K (He.ga K "ParseError") "__init__"))))
abbrev c96 : Qy := qy (fun K => PySem.W.typeIn K (.ref (He.ma K (He.ga K "ParseError") "__init__"))) (fun K => some (.type "function"))
abbrev c97 : Qy := qb (fun K => PySem.W.makesIn K (He.ga K "Script"))
abbrev c98 : Qy := qy (fun K => PySem.W.findIn K (.ref (He.ga K "Script")) "__init__") (fun K => some (some (.ref (He.ma K (He.ga K "Script") "__init__"))))
abbrev c99 : Qy := qb (fun K => PySem.W.isFn K (.ref (He.ma K (He.ga K "Script") "__init__")))
abbrev c100 : Qy := qb (fun K => PySem.W.keepIn K (.ref (He.ga K "Script")))
abbrev c101 : Qy := qb (fun K => oexGB "ValueError.__new__" [.type "ValueError", .type "Exception", .type "BaseException", .type "object"] K (He.ga K "InvalidEdit"))
abbrev c102 : Qy := qy (fun K => PySem.W.findIn K (.ref (He.ga K "InvalidEdit")) "__setattr__") (fun K => some (some (.builtin "object.__setattr__")))
abbrev c103 : Qy := qy (fun K => PySem.W.typeIn K (.ref (He.ga K "InvalidEdit"))) (fun K => some (.type "type"))
abbrev c104 : Qy := qb (fun K => PySem.W.keepIn K (.ref (He.ga K "InvalidEdit")))
abbrev c105 : Qy := qy (fun K => PySem.W.findIn K (.ref (He.ga K "InvalidEdit")) "__init__") (fun K => some (some (.ref (He.ma K (He.ga K "InvalidEdit") "__init__"))))
abbrev c106 : Qy := qy (fun K => PySem.W.typeIn K (.ref (He.ma K (He.ga K "InvalidEdit") "__init__"))) (fun K => some (.type "function"))
abbrev c107 : Qy := qb (fun K => isVal K (He.ga K "Script") "MOST" 4)
abbrev c108 : Qy := qb (fun K => oexGB "ValueError.__new__" [.type "ValueError", .type "Exception", .type "BaseException", .type "object"] K (He.ga K "TooLong"))
abbrev c109 : Qy := qy (fun K => PySem.W.findIn K (.ref (He.ga K "TooLong")) "__setattr__") (fun K => some (some (.builtin "object.__setattr__")))
abbrev c110 : Qy := qy (fun K => PySem.W.typeIn K (.ref (He.ga K "TooLong"))) (fun K => some (.type "type"))
abbrev c111 : Qy := qb (fun K => PySem.W.keepIn K (.ref (He.ga K "TooLong")))
abbrev c112 : Qy := qy (fun K => PySem.W.findIn K (.ref (He.ga K "TooLong")) "__init__") (fun K => some (some (.ref (He.ma K (He.ga K "TooLong") "__init__"))))
abbrev c113 : Qy := qy (fun K => PySem.W.typeIn K (.ref (He.ma K (He.ga K "TooLong") "__init__"))) (fun K => some (.type "function"))
abbrev c114 : Qy := qb (fun K => PySem.W.selfFirst K (He.ga K "Script"))
abbrev c115 : Qy := qy (fun K => PySem.W.findIn K (.ref (He.ga K "Script")) "__add__") (fun K => some (some (.ref (He.ma K (He.ga K "Script") "__add__"))))
abbrev c116 : Qy := qb (fun K => PySem.W.isFn K (.ref (He.ma K (He.ga K "Script") "__add__")))
abbrev c117 : Qy := qy (fun K => PySem.W.nsIn K mainGlobals "_law_open") (fun K => some (some (.ref (He.ga K "_law_open"))))
abbrev c118 : Qy := qy (fun K => PySem.W.nsIn K mainGlobals "format_edit") (fun K => some (some (.ref (He.ga K "format_edit"))))
abbrev c119 : Qy := qy (fun K => PySem.W.nsIn K mainGlobals "places") (fun K => some (some (.ref (He.ga K "places"))))
abbrev c120 : Qy := qy (fun K => PySem.W.nsIn K mainGlobals "shelf") (fun K => some (some (.ref (He.ga K "shelf"))))
abbrev c121 : Qy := qy (fun K => PySem.W.nsIn K mainGlobals "_law_spelled") (fun K => some (some (.ref (He.ga K "_law_spelled"))))
abbrev c122 : Qy := qy (fun K => PySem.W.nsIn K mainGlobals "is_symbol") (fun K => some (some (.ref (He.ga K "is_symbol"))))
abbrev c123 : Qy := qy (fun K => PySem.W.nsIn K mainGlobals "is_place") (fun K => some (some (.ref (He.ga K "is_place"))))
abbrev c124 : Qy := qy (fun K => PySem.W.nsIn K mainGlobals "is_edit") (fun K => some (some (.ref (He.ga K "is_edit"))))
abbrev c125 : Qy := qy (fun K => PySem.W.nsIn K mainGlobals "parse_edit") (fun K => some (some (.ref (He.ga K "parse_edit"))))
abbrev c126 : Qy := qy (fun K => PySem.W.nsIn K mainGlobals "_law_draw") (fun K => some (some (.ref (He.ga K "_law_draw"))))
abbrev c127 : Qy := qy (fun K => PySem.W.nsIn K mainGlobals "_law_any") (fun K => some (some (.ref (He.ga K "_law_any"))))
abbrev c128 : Qy := qy (fun K => PySem.W.nsIn K mainGlobals "_law_place") (fun K => some (some (.ref (He.ga K "_law_place"))))
abbrev c129 : Qy := qy (fun K => PySem.W.nsIn K mainGlobals "_law_edit") (fun K => some (some (.ref (He.ga K "_law_edit"))))
abbrev c130 : Qy := qy (fun K => PySem.W.nsIn K mainGlobals "_law_edits") (fun K => some (some (.ref (He.ga K "_law_edits"))))
abbrev c131 : Qy := qy (fun K => PySem.W.nsIn K mainGlobals "_law_whole") (fun K => some (some (.ref (He.ga K "_law_whole"))))
abbrev c132 : Qy := qy (fun K => PySem.W.nsIn K mainGlobals "_law_same") (fun K => some (some (.ref (He.ga K "_law_same"))))
abbrev c133 : Qy := qy (fun K => PySem.W.nsIn K mainGlobals "_law_script") (fun K => some (some (.ref (He.ga K "_law_script"))))
abbrev c134 : Qy := qy (fun K => PySem.W.nsIn K mainGlobals "_law_spelled_all") (fun K => some (some (.ref (He.ga K "_law_spelled_all"))))
abbrev c135 : Qy := qy (fun K => PySem.W.nsIn K mainGlobals "law") (fun K => some (some (.ref (He.ga K "law"))))
abbrev a0 : FnA := ⟨fun K => (propF K (He.ma K (He.ga K "Script") "read") "classmethod"), "read", "Script.read", s_Script_read, [], false⟩
abbrev a1 : FnA := ⟨fun K => (He.ma K (He.ga K "Script") "text"), "text", "Script.text", s_Script_text, [], false⟩
abbrev a2 : FnA := ⟨fun K => (He.ma K (He.ga K "Script") "edits"), "edits", "Script.edits", s_Script_edits, [], false⟩
abbrev a3 : FnA := ⟨fun K => (He.ga K "_law_refused"), "_law_refused", "_law_refused", s_L_refused, [], false⟩
abbrev a4 : FnA := ⟨fun K => (He.ma K (He.ga K "Script") "__len__"), "__len__", "Script.__len__", s_Script___len__, [], false⟩
abbrev a5 : FnA := ⟨fun K => (He.ma K (He.ga K "ParseError") "__init__"), "__init__", "ParseError.__init__", s_ParseError___init__, [], false⟩
abbrev a6 : FnA := ⟨fun K => (He.ma K (He.ga K "Script") "__init__"), "__init__", "Script.__init__", s_Script___init__, [], false⟩
abbrev a7 : FnA := ⟨fun K => (He.ma K (He.ga K "InvalidEdit") "__init__"), "__init__", "InvalidEdit.__init__", s_InvalidEdit___init__, [], false⟩
abbrev a8 : FnA := ⟨fun K => (He.ma K (He.ga K "TooLong") "__init__"), "__init__", "TooLong.__init__", s_TooLong___init__, [], false⟩
abbrev a9 : FnA := ⟨fun K => (He.ma K (He.ga K "Script") "__add__"), "__add__", "Script.__add__", s_Script___add__, [], false⟩
abbrev a10 : FnA := ⟨fun K => (He.ga K "_law_open"), "_law_open", "_law_open", s_L_open, [], false⟩
abbrev a11 : FnA := ⟨fun K => (He.ga K "format_edit"), "format_edit", "format_edit", s_format_edit, [], false⟩
abbrev a12 : FnA := ⟨fun K => (He.ga K "places"), "places", "places", s_places, [], false⟩
abbrev a13 : FnA := ⟨fun K => (He.ga K "shelf"), "shelf", "shelf", s_shelf, [], false⟩
abbrev a14 : FnA := ⟨fun K => (He.ga K "_law_spelled"), "_law_spelled", "_law_spelled", s_L_spelled, [], false⟩
abbrev a15 : FnA := ⟨fun K => (He.ga K "is_symbol"), "is_symbol", "is_symbol", s_is_symbol, [], false⟩
abbrev a16 : FnA := ⟨fun K => (He.ga K "is_place"), "is_place", "is_place", s_is_place, [], false⟩
abbrev a17 : FnA := ⟨fun K => (He.ga K "is_edit"), "is_edit", "is_edit", s_is_edit, [], false⟩
abbrev a18 : FnA := ⟨fun K => (He.ga K "parse_edit"), "parse_edit", "parse_edit", s_parse_edit, [], false⟩
abbrev a19 : FnA := ⟨fun K => (He.ga K "_law_draw"), "_law_draw", "_law_draw", s_L_draw, [], false⟩
abbrev a20 : FnA := ⟨fun K => (He.ga K "_law_any"), "_law_any", "_law_any", s_L_any, [], false⟩
abbrev a21 : FnA := ⟨fun K => (He.ga K "_law_place"), "_law_place", "_law_place", s_L_place, [], false⟩
abbrev a22 : FnA := ⟨fun K => (He.ga K "_law_edit"), "_law_edit", "_law_edit", s_L_edit, [], false⟩
abbrev a23 : FnA := ⟨fun K => (He.ga K "_law_edits"), "_law_edits", "_law_edits", s_L_edits, [], false⟩
abbrev a24 : FnA := ⟨fun K => (He.ga K "_law_whole"), "_law_whole", "_law_whole", s_L_whole, [], false⟩
abbrev a25 : FnA := ⟨fun K => (He.ga K "_law_same"), "_law_same", "_law_same", s_L_same, [], false⟩
abbrev a26 : FnA := ⟨fun K => (He.ga K "_law_script"), "_law_script", "_law_script", s_L_script, [], false⟩
abbrev a27 : FnA := ⟨fun K => (He.ga K "_law_spelled_all"), "_law_spelled_all", "_law_spelled_all", s_L_spelled_all, [], false⟩
abbrev a28 : FnA := ⟨fun K => (He.ga K "law"), "law", "law", s_law, [], false⟩
def tell : Tell := ⟨[a0, a1, a2, a3, a4, a5, a6, a7, a8, a9, a10, a11, a12, a13, a14, a15, a16, a17, a18, a19, a20, a21, a22, a23, a24, a25, a26, a27, a28], [], ["law"], [c0, c1, c2, c3, c4, c5, c6, c7, c8, c9, c10, c11, c12, c13, c14, c15, c16, c17, c18, c19, c20, c21, c22, c23, c24, c25, c26, c27, c28, c29, c30, c31, c32, c33, c34, c35, c36, c37, c38, c39, c40, c41, c42, c43, c44, c45, c46, c47, c48, c49, c50, c51, c52, c53, c54, c55, c56, c57, c58, c59, c60, c61, c62, c63, c64, c65, c66, c67, c68, c69, c70, c71, c72, c73, c74, c75, c76, c77, c78, c79, c80, c81, c82, c83, c84, c85, c86, c87, c88, c89, c90, c91, c92, c93, c94, c95, c96, c97, c98, c99, c100, c101, c102, c103, c104, c105, c106, c107, c108, c109, c110, c111, c112, c113, c114, c115, c116, c117, c118, c119, c120, c121, c122, c123, c124, c125, c126, c127, c128, c129, c130, c131, c132, c133, c134, c135]⟩
def loose : List Str := (["_wall", "PlaceError", "Missing", "InvalidRow", "InvalidEdit", "TooLong", "Mismatch", "Conflict", "Conflicting", "Different", "Carried", "InvalidName", "DuplicateName", "CapacityExceeded", "InvalidLimit", "Untraced", "NoCarry", "OrderMatters", "InvalidCommand", "ParseError", "UnknownName", "UnknownVersion", "NothingLeft", "SYMBOLS", "is_row", "locate", "ENDS", "NUMBERS", "OTHERS", "MIRRORS"] : List Str) ++ (["is_symbol", "is_place", "is_edit", "places", "shelf", "mirrored", "format_edit", "parse_edit", "written", "Trace", "changed_piece", "edit_trace", "joined", "Change", "Script", "_law_open", "_law_draw", "_law_any", "_law_whole", "_law_same", "_law_refused", "_law_place", "_law_edit", "_law_edits", "_law_spelled", "_law_spelled_all", "_law_script"] : List Str)
abbrev hk : PySem.W.Hook := hookY 6 tell
abbrev runP (w : World) : Prop := HandSHeadRun.RunEq (PySem.W.OpenLaw.row PySem.Challenge.rw_countedplace_k16_texts_of_scripts) (PySem.W.view (PySem.W.OpenLaw.row PySem.Challenge.rw_countedplace_k16_texts_of_scripts).prog [63]) hk (obY 6 tell) 20000 loose w
theorem runL0 (w : World) : RunL (PySem.W.OpenLaw.row PySem.Challenge.rw_countedplace_k16_texts_of_scripts) (PySem.W.view (PySem.W.OpenLaw.row PySem.Challenge.rw_countedplace_k16_texts_of_scripts).prog [63]) 20000 loose (w.withFollow "special-get-raises" false) := fun os => by kernel_rfl
theorem runA0 (w : World) : RunO (PySem.W.OpenLaw.row PySem.Challenge.rw_countedplace_k16_texts_of_scripts) (hookY 6 tell.a) (obY 6 tell.a) 20000 (w.withFollow "special-get-raises" false) := fun os => by kernel_rfl
theorem runB0 (w : World) : RunO (PySem.W.OpenLaw.row PySem.Challenge.rw_countedplace_k16_texts_of_scripts) (hookY 6 tell.b) (obY 6 tell.b) 20000 (w.withFollow "special-get-raises" false) := fun os => by kernel_rfl
theorem run0 (w : World) : runP (w.withFollow "special-get-raises" false) := runEq_of (runL0 w) (runO_of (runA0 w) (runB0 w))
theorem runL1 (w : World) : RunL (PySem.W.OpenLaw.row PySem.Challenge.rw_countedplace_k16_texts_of_scripts) (PySem.W.view (PySem.W.OpenLaw.row PySem.Challenge.rw_countedplace_k16_texts_of_scripts).prog [63]) 20000 loose (w.withFollow "special-get-raises" true) := fun os => by kernel_rfl
theorem runA1 (w : World) : RunO (PySem.W.OpenLaw.row PySem.Challenge.rw_countedplace_k16_texts_of_scripts) (hookY 6 tell.a) (obY 6 tell.a) 20000 (w.withFollow "special-get-raises" true) := fun os => by kernel_rfl
theorem runB1 (w : World) : RunO (PySem.W.OpenLaw.row PySem.Challenge.rw_countedplace_k16_texts_of_scripts) (hookY 6 tell.b) (obY 6 tell.b) 20000 (w.withFollow "special-get-raises" true) := fun os => by kernel_rfl
theorem run1 (w : World) : runP (w.withFollow "special-get-raises" true) := runEq_of (runL1 w) (runO_of (runA1 w) (runB1 w))
theorem run : ∀ w : World, runP w := PySem.W.byRow2 "special-get-raises" run0 run1
end Z
namespace Y
open PySem PySem.Spec PyProof.Rows L2

inductive D where
  | non | bl (b : Bool) | int (i : Int) | str (s : Str) | lst (ds : List D) | tup (ds : List D) | box | obj (c : Str) (fs : List (Str × D)) | dct (kvs : List (Key × D)) | cel (i : Nat)
  deriving Inhabited
/-- the classes by name, the tables of code objects -/
structure CT where
  cl : Str → Option Addr
  tb : List (Addr × Str)
instance : CoeFun CT (fun _ => Str → Option Addr) := ⟨CT.cl⟩
/-- what is frozen, and where the cells lie -/
structure FH where
  fz : Hp
  ad : Nat → Option Addr
instance : CoeFun FH (fun _ => Addr → Option HO) := ⟨FH.fz⟩
instance : Coe FH Hp := ⟨FH.fz⟩
abbrev FH.upd (F : FH) (p : Addr) (o : HO) : FH := ⟨L2.upd F.fz p o, F.ad⟩
/-- neither frozen nor a cell -/
def FH.free (F : FH) (p : Addr) : Prop := F.fz p = none ∧ ∀ i, F.ad i ≠ some p
theorem FH.free.upd {F : FH} {p q : Addr} {o : HO} (h : F.free p) (n : p ≠ q) : (F.upd q o).free p := ⟨by show L2.upd F.fz q o p = none; rw [upd_ne n]; exact h.1, h.2⟩
structure FSame (F F' : FH) : Prop where
  fz : Same F.fz F'.fz
  ad : ∀ i a, F.ad i = some a → F'.ad i = some a
theorem FSame.refl (F : FH) : FSame F F := ⟨Same.refl _, fun _ _ h => h⟩
theorem FSame.trans {F F' F'' : FH} (a : FSame F F') (b : FSame F' F'') : FSame F F'' := ⟨a.fz.trans b.fz, fun i x h => b.ad i x (a.ad i x h)⟩
theorem FSame.upd {F : FH} {p : Addr} {o : HO} (n : F.fz p = none) : FSame F (F.upd p o) := ⟨fun a u h => by show L2.upd F.fz p o a = some u; rw [upd_ne (ne_of_none h n)]; exact h, fun _ _ h => h⟩
/-- the box; the object that an __init__ makes, its own dict; the cells of the frame that makes lambdas -/
abbrev BQ : Type := Addr × Addr × Addr × List (Str × Addr)
structure G where
  K : PySem.W.Frag
  cls : CT
  bq : BQ
/-- the box that is drawn from -/
abbrev G.bx (g : G) : Addr := g.bq.1
/-- the object that an __init__ makes, and its own dict -/
abbrev G.me (g : G) : Addr := g.bq.2.1
abbrev G.md (g : G) : Addr := g.bq.2.2.1
abbrev G.cl (g : G) : List (Str × Addr) := g.bq.2.2.2
mutual
inductive DR (g : G) (F : FH) : V → D → Prop
  | non : DR g F .non .non
  | bl (b : Bool) : DR g F (.bl b) (.bl b)
  | int (i : Int) : DR g F (.int i) (.int i)
  | str (s : Str) : DR g F (.str s) (.str s)
  | lst {a : Addr} {xs : List V} {ds : List D} : F a = some (.lst xs) → DRs g F xs ds → DR g F (.ref a) (.lst ds)
  | tup {a : Addr} {xs : List V} {ds : List D} : SqT g.K F a xs → DRs g F xs ds → DR g F (.ref a) (.tup ds)
  | box : DR g F (.ref g.bx) .box
  | obj {a C dx : Addr} {c : Str} {fs : List (Str × V)} {ds : List (Str × D)} : F a = some (.ins C dx fs) → F dx = some (.own a) → g.cls c = some C → DRf g F fs ds → DR g F (.ref a) (.obj c ds)
  | cel {i : Nat} {a : Addr} : F.ad i = some a → DR g F (.ref a) (.cel i)
  | dct {a : Addr} {xs : List (Key × V)} {ds : List (Key × D)} : F a = some (.dK xs) → DRk g F xs ds → DR g F (.ref a) (.dct ds)
inductive DRs (g : G) (F : FH) : List V → List D → Prop
  | nil : DRs g F [] []
  | cons {v : V} {vs : List V} {d : D} {ds : List D} : DR g F v d → DRs g F vs ds → DRs g F (v :: vs) (d :: ds)
inductive DRf (g : G) (F : FH) : List (Str × V) → List (Str × D) → Prop
  | nil : DRf g F [] []
  | cons {n : Str} {v : V} {vs : List (Str × V)} {d : D} {ds : List (Str × D)} : DR g F v d → DRf g F vs ds → DRf g F ((n, v) :: vs) ((n, d) :: ds)
inductive DRk (g : G) (F : FH) : List (Key × V) → List (Key × D) → Prop
  | nil : DRk g F [] []
  | cons {n : Key} {v : V} {vs : List (Key × V)} {d : D} {ds : List (Key × D)} : DR g F v d → DRk g F vs ds → DRk g F ((n, v) :: vs) ((n, d) :: ds)
end
theorem same_T {K : PySem.W.Frag} {H H' : Hp} {a : Addr} {xs : List V} (e : Same H H') (h : SqT K H a xs) : SqT K H' a xs := by
  rcases h with (h | ⟨o, h⟩) | h
  · exact .inl (.inl (e _ _ h))
  · exact .inl (.inr ⟨o, e _ _ h⟩)
  · exact .inr h
mutual
theorem DR.mono {g : G} {F F' : FH} (e : FSame F F') : ∀ {v : V} {d : D}, DR g F v d → DR g F' v d
  | _, _, .non => .non
  | _, _, .bl b => .bl b
  | _, _, .int i => .int i
  | _, _, .str s => .str s
  | _, _, .lst h r => .lst (e.fz _ _ h) (DRs.mono e r)
  | _, _, .tup h r => .tup (same_T e.fz h) (DRs.mono e r)
  | _, _, .box => .box
  | _, _, .cel h => .cel (e.ad _ _ h)
  | _, _, .obj h h2 h3 r => .obj (e.fz _ _ h) (e.fz _ _ h2) h3 (DRf.mono e r)
  | _, _, .dct h r => .dct (e.fz _ _ h) (DRk.mono e r)
theorem DRs.mono {g : G} {F F' : FH} (e : FSame F F') : ∀ {v : List V} {d : List D}, DRs g F v d → DRs g F' v d
  | _, _, .nil => .nil
  | _, _, .cons h r => .cons (DR.mono e h) (DRs.mono e r)
theorem DRf.mono {g : G} {F F' : FH} (e : FSame F F') : ∀ {v : List (Str × V)} {d : List (Str × D)}, DRf g F v d → DRf g F' v d
  | _, _, .nil => .nil
  | _, _, .cons h r => .cons (DR.mono e h) (DRf.mono e r)
theorem DRk.mono {g : G} {F F' : FH} (e : FSame F F') : ∀ {v : List (Key × V)} {d : List (Key × D)}, DRk g F v d → DRk g F' v d
  | _, _, .nil => .nil
  | _, _, .cons h r => .cons (DR.mono e h) (DRk.mono e r)
end
section
variable {g : G} {F F' : FH} {H H' : Hp}
theorem DRs.length : ∀ {v : List V} {d : List D}, DRs g F v d → v.length = d.length
  | _, _, .nil => rfl
  | _, _, .cons _ r => congrArg (· + 1) r.length
theorem DRs.get : ∀ {vs : List V} {ds : List D} {i : Nat} {d : D}, DRs g F vs ds → ds[i]? = some d → ∃ v, vs[i]? = some v ∧ DR g F v d
  | _, _, _, _, .nil, e => by simp at e
  | _, _, 0, _, .cons r _, e => by simp at e; subst e; exact ⟨_, rfl, r⟩
  | _, _, i + 1, x, .cons _ t, e => by
    obtain ⟨u, h1, h2⟩ := DRs.get (i := i) (d := x) t (by simpa using e)
    exact ⟨u, by simpa using h1, h2⟩
theorem DRs.append : ∀ {v v' : List V} {d d' : List D}, DRs g F v d → DRs g F v' d' → DRs g F (v ++ v') (d ++ d')
  | _, _, _, _, .nil, s => s
  | _, _, _, _, .cons r t, s => .cons r (DRs.append t s)
theorem DRs.take : ∀ {v : List V} {d : List D} (n : Nat), DRs g F v d → DRs g F (v.take n) (d.take n)
  | _, _, 0, _ => .nil
  | _, _, _ + 1, .nil => .nil
  | _, _, n + 1, .cons r t => .cons r (DRs.take n t)
theorem DRs.drop : ∀ {v : List V} {d : List D} (n : Nat), DRs g F v d → DRs g F (v.drop n) (d.drop n)
  | _, _, 0, r => r
  | _, _, _ + 1, .nil => .nil
  | _, _, n + 1, .cons _ t => DRs.drop n t
theorem DRs.set {x : V} {u : D} (r : DR g F x u) : ∀ {xs : List V} {us : List D} (i : Nat), DRs g F xs us → DRs g F (xs.set i x) (us.set i u)
  | _, _, _, .nil => .nil
  | _, _, 0, .cons _ t => .cons r t
  | _, _, i + 1, .cons q t => .cons q (DRs.set r i t)
theorem DRf.lookup {f : Str} : ∀ {vs : List (Str × V)} {ds : List (Str × D)} {d : D}, DRf g F vs ds → ds.lookup f = some d → ∃ v, vs.lookup f = some v ∧ DR g F v d
  | _, _, _, .nil, e => by simp at e
  | _, _, d, .cons (n := n) r t, e => by
    rw [List.lookup_cons] at e ⊢
    cases q : f == n with
    | true => rw [q] at e; simp only at e; cases e; exact ⟨_, rfl, r⟩
    | false => rw [q] at e; simp only at e; exact DRf.lookup t e
theorem DRf.lookup_none {f : Str} : ∀ {vs : List (Str × V)} {ds : List (Str × D)}, DRf g F vs ds → ds.lookup f = none → vs.lookup f = none
  | _, _, .nil, _ => rfl
  | _, _, .cons (n := n) r t, e => by
    rw [List.lookup_cons] at e ⊢
    cases q : f == n with
    | true => rw [q] at e; simp only at e; cases e
    | false => rw [q] at e; simp only at e; exact DRf.lookup_none t e
end

/-- what may change: a list, a dict, an object -/
inductive Cell where
  | lst (ds : List D) | dct (kvs : List (Key × D)) | obj (c : Str) (fs : List (Str × D)) | lck (kvs : List (Key × D))
structure Bx where
  cells : List Int
  ix : Nat
  big : Int
  mark : Int
  st : List Cell := []
def CellOk (g : G) (F : FH) (H : Hp) (a : Addr) : Cell → Prop
  | .lst ds => ∃ vs, H a = some (.lst vs) ∧ DRs g F vs ds
  | .dct kvs => ∃ xs, H a = some (.dK xs) ∧ DRk g F xs kvs
  | .obj c fs => ∃ C dx vs, H a = some (.ins C dx vs) ∧ H dx = some (.own a) ∧ g.cls c = some C ∧ DRf g F vs fs
  | .lck kvs => ∃ xs od, H a = some (.frz od (.dK xs)) ∧ DRk g F xs kvs
theorem CellOk.at_ {g : G} {F : FH} {H : Hp} {a : Addr} {c : Cell} (h : CellOk g F H a c) : H a ≠ none := by
  cases c with
  | lst ds => obtain ⟨_, e, _⟩ := h; rw [e]; simp
  | dct ds => obtain ⟨_, e, _⟩ := h; rw [e]; simp
  | obj c ds => obtain ⟨_, _, _, e, _⟩ := h; rw [e]; simp
  | lck ds => obtain ⟨_, _, e, _⟩ := h; rw [e]; simp
/-- a cell is kept while it is not changed itself -/
theorem CellOk.keep {g : G} {F F' : FH} {H H' : Hp} {a : Addr} {c : Cell} (h : CellOk g F H a c) (e : FSame F F') (ka : H' a = H a) (ko : ∀ b x, H b = some (.own x) → H' b = some (.own x)) : CellOk g F' H' a c := by
  cases c with
  | lst ds => obtain ⟨vs, e1, r⟩ := h; exact ⟨vs, ka.trans e1, r.mono e⟩
  | dct ds => obtain ⟨vs, e1, r⟩ := h; exact ⟨vs, ka.trans e1, r.mono e⟩
  | obj c ds => obtain ⟨C, dx, vs, e1, e2, e3, r⟩ := h; exact ⟨C, dx, vs, ka.trans e1, ko _ _ e2, e3, r.mono e⟩
  | lck ds => obtain ⟨vs, od, e1, r⟩ := h; exact ⟨vs, od, ka.trans e1, r.mono e⟩
structure BxOk (g : G) (F : FH) (w : Bx) (H : Hp) : Prop where
  at_ : ∃ c, H g.bx = some (.lst [.ref c, .int (w.ix : Int), .int w.big, .int w.mark]) ∧ F c = some (.lst (w.cells.map V.int))
  no : F g.bx = none
  big0 : 0 ≤ w.big
  mk0 : 0 ≤ w.mark
  mk1 : w.mark < 2147483647
  nc : w.cells.length ≤ 63
  cel : ∀ i c, w.st[i]? = some c → ∃ a, F.ad i = some a ∧ F.fz a = none ∧ a ≠ g.bx ∧ CellOk g F H a c
  adl : ∀ i a, F.ad i = some a → i < w.st.length
  inj : ∀ i j a, F.ad i = some a → F.ad j = some a → i = j
  tabs : LamX.Tabs g.cls.tb H
  ntb : ∀ a ps, F.fz a ≠ some (.tbl ps)
theorem BxOk.nocell {g : G} {F : FH} {w : Bx} {H : Hp} (b : BxOk g F w H) {i : Nat} {a : Addr} (h : F.ad i = some a) : F.fz a = none ∧ a ≠ g.bx ∧ H a ≠ none := by
  have hl := b.adl i a h
  obtain ⟨a', e1, e2, e3, e4⟩ := b.cel i _ (List.getElem?_eq_getElem hl)
  rw [h] at e1; cases e1
  exact ⟨e2, e3, e4.at_⟩
structure Ext (g : G) (F : FH) (H : Hp) (F' : FH) (H' : Hp) (w : Bx) : Prop where
  ff : FSame F F'
  hh : ∀ a o, a ≠ g.bx → (∀ i, F.ad i ≠ some a) → (∀ ps, o ≠ .tbl ps) → H a = some o → H' a = some o
  dom : ∀ a, H' a = none → H a = none
  new : ∀ a o, F' a = some o → F a = some o ∨ H a = none
  nad : ∀ i a, F'.ad i = some a → F.ad i = some a ∨ H a = none
  sub : Same F' H'
  bx : BxOk g F' w H'
  frz : ∀ a od u, H a = some (.frz od u) → H' a = some (.frz od u)
theorem Tabs.keep {T : List (Addr × Str)} {H H' : Hp} (t : LamX.Tabs T H) (k : ∀ a o, (∀ vs, o ≠ .lst vs) → (∀ vs, o ≠ .dK vs) → (∀ C d vs, o ≠ .ins C d vs) → H a = some o → H' a = some o) : LamX.Tabs T H' := fun p hp => by
  obtain ⟨ps, h1, h2, h3⟩ := t p hp
  refine ⟨ps, k _ _ (fun _ z => by cases z) (fun _ z => by cases z) (fun _ _ _ z => by cases z) h1, h2, fun pos cv hc => ?_⟩
  obtain ⟨c, e1, e2⟩ := h3 pos cv hc
  exact ⟨c, e1, k _ _ (fun _ z => by unfold LamX.CodeO at z; cases z) (fun _ z => by unfold LamX.CodeO at z; cases z) (fun _ _ _ z => by unfold LamX.CodeO at z; cases z) e2⟩
/-- more is frozen -/
theorem BxOk.mono {g : G} {F F' : FH} {H : Hp} {w : Bx} (b : BxOk g F w H) (e : FSame F F') (ea : F'.ad = F.ad) (n : F' g.bx = none) (nc : ∀ i a, F.ad i = some a → F'.fz a = none) (nt : ∀ a ps, F'.fz a ≠ some (.tbl ps)) : BxOk g F' w H where
  at_ := let ⟨c, h1, h2⟩ := b.at_; ⟨c, h1, e.fz _ _ h2⟩
  no := n
  big0 := b.big0
  mk0 := b.mk0
  mk1 := b.mk1
  nc := b.nc
  cel := fun i c h => let ⟨a, h1, _, h3, h4⟩ := b.cel i c h; ⟨a, by rw [ea]; exact h1, nc i a h1, h3, h4.keep e rfl fun _ _ q => q⟩
  adl := by rw [ea]; exact b.adl
  inj := by rw [ea]; exact b.inj
  tabs := b.tabs
  ntb := nt
/-- the heap turns, away from the box and the cells -/
theorem BxOk.heap {g : G} {F : FH} {H H' : Hp} {w : Bx} (b : BxOk g F w H) (e : H' g.bx = H g.bx) (kc : ∀ i a, F.ad i = some a → H' a = H a) (ko : ∀ a o, (∀ vs, o ≠ .lst vs) → (∀ vs, o ≠ .dK vs) → (∀ C d vs, o ≠ .ins C d vs) → H a = some o → H' a = some o) : BxOk g F w H' where
  at_ := let ⟨c, h1, h2⟩ := b.at_; ⟨c, e.trans h1, h2⟩
  no := b.no
  big0 := b.big0
  mk0 := b.mk0
  mk1 := b.mk1
  nc := b.nc
  cel := fun i c h => let ⟨a, h1, h2, h3, h4⟩ := b.cel i c h; ⟨a, h1, h2, h3, h4.keep (FSame.refl F) (kc i a h1) fun x y q => ko x _ (fun _ z => by cases z) (fun _ z => by cases z) (fun _ _ _ z => by cases z) q⟩
  adl := b.adl
  inj := b.inj
  tabs := Tabs.keep b.tabs ko
  ntb := b.ntb
/-- all stays -/
theorem BxOk.grow {g : G} {F : FH} {H H' : Hp} {w : Bx} (b : BxOk g F w H) (k : ∀ a o, H a = some o → H' a = some o) : BxOk g F w H' := by
  refine b.heap ?_ (fun i a h => ?_) (fun a o _ _ _ h => k a o h)
  · obtain ⟨c, h1, _⟩ := b.at_; rw [h1]; exact k _ _ h1
  · cases q : H a with
    | none => exact absurd q (b.nocell h).2.2
    | some o => exact k _ _ q
section
variable {g : G} {F F1 F2 : FH} {H H1 H2 : Hp} {w w1 w2 : Bx}
theorem Ext.refl (s : Same F H) (b : BxOk g F w H) : Ext g F H F H w := ⟨FSame.refl F, fun _ _ _ _ _ h => h, fun _ h => h, fun _ _ h => .inl h, fun _ _ h => .inl h, s, b, fun _ _ _ h => h⟩
theorem Ext.fresh (a : Ext g F H F1 H1 w) {p : Addr} (n : H1 p = none) : H p = none := a.dom p n
theorem Ext.trans (a : Ext g F H F1 H1 w1) (b : Ext g F1 H1 F2 H2 w2) : Ext g F H F2 H2 w2 where
  ff := a.ff.trans b.ff
  hh := fun x o n nc nt h => b.hh x o n (fun i q => (a.nad i x q).elim (nc i) fun z => by rw [h] at z; cases z) nt (a.hh x o n nc nt h)
  dom := fun x h => a.dom x (b.dom x h)
  new := fun x o h => by
    rcases b.new x o h with h1 | h1
    · exact a.new x o h1
    · exact .inr (a.dom x h1)
  nad := fun i x h => by
    rcases b.nad i x h with h1 | h1
    · exact a.nad i x h1
    · exact .inr (a.dom x h1)
  sub := b.sub
  bx := b.bx
  frz := fun x od u h => b.frz x od u (a.frz x od u h)
theorem upd_dom {H : Hp} {p a : Addr} {o : HO} (h : upd H p o a = none) : H a = none := by
  by_cases e : a = p
  · rw [e, upd_same] at h; cases h
  · rw [upd_ne e] at h; exact h
/-- a new object is laid, and frozen -/
theorem Ext.lay {p : Addr} {o : HO} (s : Same F H) (b : BxOk g F w H) (np : H p = none) (ho : ∀ ps, o ≠ .tbl ps := by intro _ z; cases z) : Ext g F H (F.upd p o) (upd H p o) w := by
  have nF : F p = none := by
    cases q : F p with
    | none => rfl
    | some u => rw [s p u q] at np; cases np
  have nb : p ≠ g.bx := fun e => by
    obtain ⟨c, h, _⟩ := b.at_
    rw [e, h] at np; cases np
  have nc : ∀ i, F.ad i ≠ some p := fun i h => (b.nocell h).2.2 np
  have fs : FSame F (F.upd p o) := ⟨fun a u h => by show upd F.fz p o a = some u; rw [upd_ne (ne_of_none h nF)]; exact h, fun _ _ h => h⟩
  refine ⟨fs, fun a u _ _ _ h => ?_, fun a h => upd_dom h, fun a u h => ?_, fun _ _ h => .inl h, fun a u h => ?_, ?_, fun a od u h => by rw [upd_ne (ne_of_none h np)]; exact h⟩
  · rw [upd_ne (ne_of_none h np)]; exact h
  · by_cases e : a = p
    · exact .inr (e ▸ np)
    · have h : upd F.fz p o a = some u := h
      rw [upd_ne e] at h; exact .inl h
  · have h : upd F.fz p o a = some u := h
    by_cases e : a = p
    · rw [e, upd_same] at h ⊢; exact h
    · rw [upd_ne e] at h ⊢; exact s a u h
  · refine (b.mono fs rfl ?_ (fun i a h => ?_) fun a ps h => ?_).grow fun a u h => ?_
    · show upd F.fz p o g.bx = none
      rw [upd_ne nb.symm]; exact b.no
    · show upd F.fz p o a = none
      rw [upd_ne (show a ≠ p from fun z => nc i (z ▸ h))]; exact (b.nocell h).1
    · have h : upd F.fz p o a = some (.tbl ps) := h
      by_cases e : a = p
      · rw [e, upd_same] at h; cases h; exact ho ps rfl
      · rw [upd_ne e] at h; exact b.ntb a ps h
    · rw [upd_ne (ne_of_none h np)]; exact h
/-- a new object is laid, not frozen yet -/
theorem Ext.own {p : Addr} {o : HO} (s : Same F H) (b : BxOk g F w H) (np : H p = none) : Ext g F H F (upd H p o) w := by
  have k : ∀ a u, H a = some u → upd H p o a = some u := fun a u h => by rw [upd_ne (ne_of_none h np)]; exact h
  exact ⟨FSame.refl F, fun a u _ _ _ h => k a u h, fun a h => upd_dom h, fun _ _ h => .inl h, fun _ _ h => .inl h, fun a u h => k a u (s a u h), b.grow k, fun a od u h => k a _ h⟩
/-- an object that is not frozen is frozen -/
theorem Ext.freeze {p : Addr} {o : HO} (a : Ext g F H F1 H1 w) (np : H p = none) (n1 : F1.free p) (h1 : H1 p = some o) (nb : p ≠ g.bx) (ho : ∀ ps, o ≠ .tbl ps := by intro _ z; cases z) : Ext g F H (F1.upd p o) H1 w := by
  have fs : FSame F1 (F1.upd p o) := ⟨fun x u h => by show upd F1.fz p o x = some u; rw [upd_ne (ne_of_none h n1.1)]; exact h, fun _ _ h => h⟩
  refine ⟨a.ff.trans fs, a.hh, a.dom, fun x u h => ?_, a.nad, fun x u h => ?_, a.bx.mono fs rfl ?_ (fun i x h => ?_) fun x ps h => ?_, a.frz⟩
  · have h : upd F1.fz p o x = some u := h
    by_cases e : x = p
    · exact .inr (e ▸ np)
    · rw [upd_ne e] at h; exact a.new x u h
  · have h : upd F1.fz p o x = some u := h
    by_cases e : x = p
    · rw [e, upd_same] at h; rw [e, h1]; exact h
    · rw [upd_ne e] at h; exact a.sub x u h
  · show upd F1.fz p o g.bx = none
    rw [upd_ne nb.symm]; exact a.bx.no
  · show upd F1.fz p o x = none
    rw [upd_ne (show x ≠ p from fun z => n1.2 i (z ▸ h))]; exact (a.bx.nocell h).1
  · have h : upd F1.fz p o x = some (.tbl ps) := h
    by_cases e : x = p
    · rw [e, upd_same] at h; cases h; exact ho ps rfl
    · rw [upd_ne e] at h; exact a.bx.ntb x ps h
/-- what is not in the heap is free -/
theorem free_of (s : Same F H) (b : BxOk g F w H) {p : Addr} (n : H p = none) : F.free p := by
  refine ⟨?_, fun i h => (b.nocell h).2.2 n⟩
  cases q : F p with
  | none => rfl
  | some u => rw [s p u q] at n; cases n
/-- what was free and there stays free -/
theorem Ext.free (x : Ext g F H F1 H1 w) {p : Addr} {o : HO} (n : F.free p) (h : H p = some o) : F1.free p := by
  refine ⟨?_, fun i q => ?_⟩
  · cases q : F1.fz p with
    | none => rfl
    | some u =>
      rcases x.new p u q with z | z
      · rw [show F.fz p = none from n.1] at z; cases z
      · rw [h] at z; cases z
  · rcases x.nad i p q with z | z
    · exact n.2 i z
    · rw [h] at z; cases z
end

inductive R (α : Type) where
  | ok (a : α) (w : Bx) | err (c : Str) (fs : List (Str × D)) (w : Bx) | bad
def R.bind {α β : Type} : R α → (α → Bx → R β) → R β
  | .ok a w, k => k a w
  | .err c fs w, _ => .err c fs w
  | .bad, _ => .bad
def R.ofO {α : Type} : Option α → Bx → R α
  | some a, w => .ok a w
  | none, _ => .bad
@[simp] theorem R.bind_ok {α β : Type} (a : α) (w : Bx) (k : α → Bx → R β) : (R.ok a w).bind k = k a w := rfl
@[simp] theorem R.bind_err {α β : Type} (c : Str) (fs : List (Str × D)) (w : Bx) (k : α → Bx → R β) : (R.err c fs w : R α).bind k = .err c fs w := rfl
@[simp] theorem R.bind_bad {α β : Type} (k : α → Bx → R β) : (R.bad : R α).bind k = .bad := rfl
@[simp] theorem R.ofO_some {α : Type} (a : α) (w : Bx) : R.ofO (some a) w = .ok a w := rfl
@[simp] theorem R.ofO_none {α : Type} (w : Bx) : (R.ofO none w : R α) = .bad := rfl

/-- what is wanted of an exception of the class c -/
def PErr (g : G) (F : FH) (H : Hp) (E : XK) (c : Str) (fs : List (Str × D)) (w : Bx) : Prop :=
  ∀ (cl a : Addr) (vs : List (Str × V)) (H' : Hp) (F' : FH), Ext g F H F' H' w → H a = none → g.cls c = some cl → H' a = some (.xd vs) → DRf g F' vs fs → E (.ref cl) (some a) H'
/-- the wish of a result: Qk of a good one -/
def PostG {α : Type} (g : G) (F : FH) (H : Hp) (E : XK) (Qk : α → Bx → Prop) : R α → Prop
  | .ok a w => Qk a w
  | .err c fs w => PErr g F H E c fs w
  | .bad => False
def Post (g : G) (F : FH) (H : Hp) (Q : VK) (E : XK) : R D → Prop := PostG g F H E fun d w => ∀ (v : V) (H' : Hp) (F' : FH), Ext g F H F' H' w → DR g F' v d → Q v H'
def PostA (g : G) (F : FH) (H : Hp) (Q : List V → Hp → Prop) (E : XK) : R (List D) → Prop := PostG g F H E fun ds w => ∀ (vs : List V) (H' : Hp) (F' : FH), Ext g F H F' H' w → DRs g F' vs ds → Q vs H'
def PostT (g : G) (F : FH) (H : Hp) (Q : Bool → Hp → Prop) (E : XK) : R Bool → Prop := PostG g F H E fun b w => ∀ (H' : Hp) (F' : FH), Ext g F H F' H' w → Q b H'
/-- a new list, not frozen -/
def PostO (g : G) (F : FH) (H : Hp) (Q : VK) (E : XK) : R (List D) → Prop := PostG g F H E fun ds w => ∀ (p : Addr) (vs : List V) (H' : Hp) (F' : FH), Ext g F H F' H' w → H p = none → F'.free p → H' p = some (.lst vs) → DRs g F' vs ds → Q (.ref p) H'
section
variable {g : G} {F F1 F2 : FH} {H H1 H2 : Hp} {w w1 w2 : Bx} {E : XK}
theorem PErr.of {c : Str} {fs : List (Str × D)} (a : Ext g F H F1 H1 w) (h : PErr g F H E c fs w2) : PErr g F1 H1 E c fs w2 :=
  fun cl x vs H' F' e n k l r => h cl x vs H' F' (a.trans e) (a.fresh n) k l r
/-- a step, then the rest -/
theorem PostG.bind {α β : Type} {r : R α} {k : α → Bx → R β} {Qk : β → Bx → Prop} (h : PostG g F H E Qk (r.bind k)) : PostG g F H E (fun a w => PostG g F H E Qk (k a w)) r := by
  cases r with
  | ok a w => exact h
  | err c fs w => exact h
  | bad => exact h
theorem PostG.imp {α : Type} {r : R α} {Q1 Q2 : α → Bx → Prop} (h : PostG g F H E Q1 r) (i : ∀ a w, r = .ok a w → Q1 a w → Q2 a w) : PostG g F H E Q2 r := by
  cases r with
  | ok a w => exact i a w rfl h
  | err c fs w => exact h
  | bad => exact h
/-- the wish as it is behind a step -/
theorem PostG.ext {α : Type} {r : R α} {Q1 Q2 : α → Bx → Prop} (a : Ext g F H F1 H1 w) (h : PostG g F H E Q1 r) (i : ∀ a w, Q1 a w → Q2 a w) : PostG g F1 H1 E Q2 r := by
  cases r with
  | ok x w => exact i x w h
  | err c fs w => exact PErr.of a h
  | bad => exact h
theorem Post.of {r : R D} {Q : VK} (a : Ext g F H F1 H1 w) (h : Post g F H Q E r) : Post g F1 H1 Q E r :=
  PostG.ext a h fun _ _ q v H' F' e r => q v H' F' (a.trans e) r
theorem PostT.of {r : R Bool} {Q : Bool → Hp → Prop} (a : Ext g F H F1 H1 w) (h : PostT g F H Q E r) : PostT g F1 H1 Q E r :=
  PostG.ext a h fun _ _ q H' F' e => q H' F' (a.trans e)
end
/-- nothing is let out -/
theorem passLN {X : Cx} : Passes (L2N.CX X.prog X.w) X E0 := fun _ _ _ _ _ _ _ h => by
  obtain ⟨_, _, _, _, _, _, _, _, _, _, _, _, z⟩ := h
  exact z.elim
end Y
namespace Y
open PySem PySem.Spec PyProof.Rows L2
/-- a lambda: its qualified name, its parameters, body and scope -/
structure LamI where
  q : Str
  ps : Arguments
  bd : Expr
  sc : Scope
/-- the function object of a lambda, its closure from the cells cl -/
def LamF (cl : List (Str × Addr)) (f c' : Addr) (dV : Value) (l : LamI) : HO := .ext fun h => ∃ doc pm ctv, h.get? f = some (PySem.W.kdv_obj "<lambda>" l.q l.ps (.expr l.bd) l.sc (cloFrom cl l.sc.names []) dV doc pm c' ctv)
/-- its defaults: none, or a number -/
def DflF (F : Hp) (dV : Value) (ps : Arguments) : Prop := (ps.defaults = [] ∧ dV = .none) ∨ ∃ t i j p, ps.defaults = [.Constant (.int i) j p] ∧ dV = .ref t ∧ F t = some (.tup [.int i])
inductive SV where
  | dat (d : D) | own (ds : List D) | ins (c : Str) (fs : List (Str × D)) | lam (ls : List LamI) | cls (c : Str)
/-- a list of lambdas, laid and frozen; their code objects are known -/
inductive LamsOk (g : G) (F : FH) (H : Hp) : List V → List LamI → Prop
  | nil : LamsOk g F H [] []
  | cons {f c' : Addr} {dV : Value} {l : LamI} {vs : List V} {ls : List LamI} (hf : F f = some (LamF g.cl f c' dV l)) (hd : DflF F dV l.ps) (nb : c' ≠ g.bx) (na : ∀ i, F.ad i ≠ some c') (hc : H c' = some (LamX.CodeO c' l.q)) (r : LamsOk g F H vs ls) : LamsOk g F H (.ref f :: vs) (l :: ls)
abbrev SL := List (Option SV)
/-- what is wished of an exception, at the slots -/
abbrev EK := L2.St → XK
abbrev kE (E : XK) : EK := fun _ => E
def SvOk (g : G) (F : FH) (H : Hp) : SV → V → Prop
  | .dat d, v => DR g F v d
  | .own ds, v => ∃ p vs, v = .ref p ∧ F.free p ∧ p ≠ g.bx ∧ H p = some (.lst vs) ∧ DRs g F vs ds
  | .lam ls, v => ∃ p vs, v = .ref p ∧ F p = some (.lst vs) ∧ LamsOk g F H vs ls
  | .cls c, v => ∃ C, v = .ref C ∧ g.cls c = some C
  | .ins c fs, v => ∃ C vs, v = .ref g.me ∧ g.cls c = some C ∧ F.free g.me ∧ F.free g.md ∧ g.me ≠ g.bx ∧ g.md ≠ g.bx ∧ H g.me = some (.ins C g.md vs) ∧ H g.md = some (.own g.me) ∧ DRf g F vs fs
structure Rel (g : G) (F : FH) (w : Bx) (S : SL) (σ : L2.St) (H : Hp) : Prop where
  sub : Same F H
  bx : BxOk g F w H
  len : S.length = σ.length
  sl : ∀ (i : Nat) (s : SV), S[i]? = some (some s) → ∃ v, σ[i]? = some (some v) ∧ SvOk g F H s v
  inj : ∀ (i j : Nat) (ds ds2 : List D) (v : V), S[i]? = some (some (.own ds)) → S[j]? = some (some (.own ds2)) → σ[i]? = some (some v) → σ[j]? = some (some v) → i = j
theorem DflF.mono {F F' : Hp} {dV : Value} {ps : Arguments} (e : Same F F') (h : DflF F dV ps) : DflF F' dV ps := by
  rcases h with h | ⟨t, i, j, p, h1, h2, h3⟩
  · exact .inl h
  · exact .inr ⟨t, i, j, p, h1, h2, e _ _ h3⟩
theorem LamsOk.keep {g : G} {F F' : FH} {H H' : Hp} (e : Same F.fz F'.fz) (ka : ∀ a q, a ≠ g.bx → (∀ i, F.ad i ≠ some a) → H a = some (LamX.CodeO a q) → H' a = some (LamX.CodeO a q) ∧ ∀ i, F'.ad i ≠ some a) : ∀ {vs : List V} {ls : List LamI}, LamsOk g F H vs ls → LamsOk g F' H' vs ls
  | _, _, .nil => .nil
  | _, _, .cons hf hd nb na hc r => .cons (e _ _ hf) (hd.mono e) nb (ka _ _ nb na hc).2 (ka _ _ nb na hc).1 (r.keep e ka)
theorem LamsOk.ext {g : G} {F F' : FH} {H H' : Hp} {w : Bx} {vs : List V} {ls : List LamI} (x : Ext g F H F' H' w) (h : LamsOk g F H vs ls) : LamsOk g F' H' vs ls :=
  h.keep x.ff.fz fun a q nb na hc => ⟨x.hh a _ nb na LamX.codeO_ne hc, fun i z => by
    rcases x.nad i a z with y | y
    · exact na i y
    · rw [hc] at y; cases y⟩
/-- another object turns -/
theorem LamsOk.upd {g : G} {F : FH} {H : Hp} {q : Addr} {o o' : HO} {vs : List V} {ls : List LamI} (h : LamsOk g F H vs ls) (hq : H q = some o) (ne : ∀ z, o ≠ .ext z) : LamsOk g F (L2.upd H q o') vs ls :=
  h.keep (Same.refl _) fun a z nb na hc => ⟨by rw [upd_ne fun e => by rw [e, hq] at hc; exact ne _ (Option.some.inj hc)]; exact hc, na⟩
theorem SvOk.ext {g : G} {F F' : FH} {H H' : Hp} {w : Bx} {s : SV} {v : V} (x : Ext g F H F' H' w) (h : SvOk g F H s v) : SvOk g F' H' s v := by
  cases s with
  | dat d => exact DR.mono x.ff h
  | own ds =>
    obtain ⟨p, vs, e, n, nb, hp, r⟩ := h
    exact ⟨p, vs, e, x.free n hp, nb, x.hh p _ nb n.2 (fun _ z => by cases z) hp, r.mono x.ff⟩
  | lam ls =>
    obtain ⟨p, vs, e, h1, h2⟩ := h
    exact ⟨p, vs, e, x.ff.fz _ _ h1, h2.ext x⟩
  | cls c => exact h
  | ins c fs =>
    obtain ⟨C, vs, e, hc, n1, n2, nb1, nb2, h1, h2, r⟩ := h
    exact ⟨C, vs, e, hc, x.free n1 h1, x.free n2 h2, nb1, nb2, x.hh _ _ nb1 n1.2 (fun _ z => by cases z) h1, x.hh _ _ nb2 n2.2 (fun _ z => by cases z) h2, r.mono x.ff⟩
theorem Rel.ext {g : G} {F F' : FH} {H H' : Hp} {w w' : Bx} {S : SL} {σ : L2.St} (R : Rel g F w S σ H) (x : Ext g F H F' H' w') : Rel g F' w' S σ H' :=
  ⟨x.sub, x.bx, R.len, fun i s e => let ⟨v, h1, h2⟩ := R.sl i s e; ⟨v, h1, h2.ext x⟩, R.inj⟩
theorem Rel.ex {g : G} {F : FH} {H : Hp} {w : Bx} {S : SL} {σ : L2.St} (R : Rel g F w S σ H) : Ext g F H F H w := Ext.refl R.sub R.bx

abbrev EM := SL → Bx → R D
abbrev TM := SL → Bx → R Bool
abbrev AM := SL → Bx → R (List D)
structure DE (X : Cx) (g : G) (E : EK) (e : Expr) (f : EM) : Prop where
  run : ∃ t, PE X e t ∧ ∀ σ H Q F S w, Rel g F w S σ H → Post g F H Q (E σ) (f S w) → t σ H Q
/-- a new list -/
structure DO (X : Cx) (g : G) (E : EK) (e : Expr) (f : AM) : Prop where
  run : ∃ t, PE X e t ∧ ∀ σ H Q F S w, Rel g F w S σ H → PostO g F H Q (E σ) (f S w) → t σ H Q
structure DT (X : Cx) (g : G) (E : EK) (e : Expr) (f : TM) : Prop where
  run : ∃ t, PT X e t ∧ ∀ σ H Q F S w, Rel g F w S σ H → PostT g F H Q (E σ) (f S w) → t σ H Q
structure DW (X : Cx) (g : G) (E : EK) (e : Expr) (f : TM) : Prop where
  run : ∃ t, PW X e t ∧ ∀ σ H Q F S w, Rel g F w S σ H → PostT g F H Q (E σ) (f S w) → t σ H Q
structure DA (X : Cx) (g : G) (E : EK) (es : List Expr) (f : AM) : Prop where
  run : ∃ t, PA X es t ∧ ∀ σ H Q F S w, Rel g F w S σ H → PostA g F H Q (E σ) (f S w) → t σ H Q

section
variable {X : Cx} {g : G} {E : EK} {e a b c : Expr} {es : List Expr} {pos : Pos} {fa fb f : EM} {fc : TM}
def eVar (i : Nat) : EM := fun S w => match S[i]? with
  | some (some (.dat d)) => .ok d w
  | _ => .bad
def eC (d : D) : EM := fun _ w => .ok d w
theorem de_var (i : Nat) {x : Str} (hN : X.N[i]? = some x := by rfl) (hv : Vis X.env.scope x := by first | exact Or.inl rfl | exact Or.inr (Or.inl rfl) | exact Or.inr (Or.inr rfl)) (hd : (x == ("__debug__" : Str)) = false := by decide)
    (hcd : (x == ("__classdict__" : Str)) = false := by decide) : DE X g E (.Name x pos) (eVar i) := by
  refine ⟨_, pe_var hN hv hd hcd, fun σ H Q F S w R h => ?_⟩
  unfold eVar at h
  split at h
  · rename_i d hs
    obtain ⟨v, e1, e2⟩ := R.sl i _ hs
    exact ⟨v, e1, h v H F R.ex e2⟩
  · exact h.elim
theorem de_int {i : Int} {j : Nat} : DE X g E (.Constant (.int i) j pos) (eC (.int i)) := ⟨_, pe_int, fun σ H Q F S w R h => h _ H F R.ex (.int i)⟩
theorem de_bl {i : Bool} {j : Nat} : DE X g E (.Constant (.bool i) j pos) (eC (.bl i)) := ⟨_, pe_bl, fun σ H Q F S w R h => h _ H F R.ex (.bl i)⟩
theorem de_str {i : Str} {j : Nat} : DE X g E (.Constant (.str i) j pos) (eC (.str i)) := ⟨_, pe_str, fun σ H Q F S w R h => h _ H F R.ex (.str i)⟩
theorem de_non {j : Nat} : DE X g E (.Constant .none j pos) (eC .non) := ⟨_, pe_non, fun σ H Q F S w R h => h _ H F R.ex .non⟩
theorem de_glob {x : Str} {v : V} {u : Value} {d : D} (hm : X.mg x = some u) (r : RelV v u) (hd : ∀ F, DR g F v d) (hg : Gl X x := by rfl) (hdb : (x == ("__debug__" : Str)) = false := by decide) : DE X g E (.Name x pos) (eC d) :=
  ⟨_, pe_glob hg hm r hdb, fun σ H Q F S w R h => h _ H F R.ex (hd F)⟩

/-- r does on values what m does on data -/
def OpD (g : G) (r : R2) (m : D → D → Option D) : Prop := ∀ (F : FH) (H : Hp) (w : Bx) (x y : V) (d e z : D) (Q : VK), Same F H → BxOk g F w H → DR g F x d → DR g F y e → m d e = some z →
  (∀ v H' F', Ext g F H F' H' w → DR g F' v z → Q v H') → r x y H Q
def eBin (m : D → D → Option D) (fa fb : EM) : EM := fun S w => (fa S w).bind fun d w1 => (fb S w1).bind fun e w2 => R.ofO (m d e) w2
theorem post_ofO {E1 : XK} {F : FH} {H : Hp} {Q : D → Bx → Prop} {o : Option D} {w : Bx} (h : PostG g F H E1 Q (R.ofO o w)) : ∃ z, o = some z ∧ Q z w := by
  cases o with
  | none => exact h.elim
  | some z => exact ⟨z, rfl, h⟩
theorem post_ofO' {α : Type} {E1 : XK} {F : FH} {H : Hp} {Q : α → Bx → Prop} {o : Option α} {w : Bx} (h : PostG g F H E1 Q (R.ofO o w)) : ∃ z, o = some z ∧ Q z w := by
  cases o with
  | none => exact h.elim
  | some z => exact ⟨z, rfl, h⟩
theorem bin_run {r : R2} {m : D → D → Option D} {ta tb : TE} (hm : OpD g r m) (ra : ∀ σ H Q F S w, Rel g F w S σ H → Post g F H Q (E σ) (fa S w) → ta σ H Q) (rb : ∀ σ H Q F S w, Rel g F w S σ H → Post g F H Q (E σ) (fb S w) → tb σ H Q) :
    ∀ σ H Q F S w, Rel g F w S σ H → Post g F H Q (E σ) (eBin m fa fb S w) → tOp r ta tb σ H Q := by
  intro σ H Q F S w R h
  refine ra σ H _ F S w R (PostG.imp (PostG.bind h) fun d w1 _ h1 v H1 F1 x1 r1 => ?_)
  refine rb σ H1 _ F1 S w1 (R.ext x1) (PostG.ext x1 (PostG.bind h1) fun e w2 h2 u H2 F2 x2 r2 => ?_)
  obtain ⟨z, hz, q⟩ := post_ofO h2
  exact hm F2 H2 w2 v u d e z Q x2.sub x2.bx (r1.mono x2.ff) r2 hz fun v' H' F' x3 r3 => q v' H' F' ((x1.trans x2).trans x3) r3
theorem de_op {op : Operator} {r : R2} {m : D → D → Option D} (ho : OpR X (binaryOp op) r) (hm : OpD g r m) (ha : DE X g E a fa) (hb : DE X g E b fb) : DE X g E (.BinOp a op b pos) (eBin m fa fb) := by
  obtain ⟨ta, pa, ra⟩ := ha.run
  obtain ⟨tb, pb, rb⟩ := hb.run
  exact ⟨_, pe_op ho pa pb, bin_run hm ra rb⟩
theorem de_cmp {op : CmpOp} {r : R2} {m : D → D → Option D} (ho : OpR X (compareOp op) r) (hm : OpD g r m) (ha : DE X g E a fa) (hb : DE X g E b fb) (hk : behindInMarks op b = false := by first | exact nomark _ | rfl) : DE X g E (.Compare a [op] [b] pos) (eBin m fa fb) := by
  obtain ⟨ta, pa, ra⟩ := ha.run
  obtain ⟨tb, pb, rb⟩ := hb.run
  exact ⟨_, pe_cmpR ho pa pb hk, bin_run hm ra rb⟩
/-- a value that must be a bool, as a test -/
def tOf (f : EM) : TM := fun S w => (f S w).bind fun d w1 => match d with
  | .bl b => .ok b w1
  | _ => .bad
theorem dt_of {ta : TE} (ra : ∀ σ H Q F S w, Rel g F w S σ H → Post g F H Q (E σ) (fa S w) → ta σ H Q) :
    ∀ σ H (Q : Bool → Hp → Prop) F S w, Rel g F w S σ H → PostT g F H Q (E σ) (tOf fa S w) → ta σ H (fun x H' => ∃ k, x = .bl k ∧ Q k H') := by
  intro σ H Q F S w R h
  refine ra σ H _ F S w R (PostG.imp (PostG.bind h) fun d w1 _ h1 v H1 F1 x1 r1 => ?_)
  cases r1 with
  | bl k => exact ⟨k, rfl, h1 H1 F1 x1⟩
  | _ => exact h1.elim
theorem dt_val (ha : DE X g E a fa) (he : ∀ whole, isTrue a X.env whole = (do let v ← whole; standAt a.pos; holding [v] (truthy v)) := by intro _; rfl) : DT X g E a (tOf fa) := by
  obtain ⟨ta, pa, ra⟩ := ha.run
  exact ⟨_, pt_val pa he, dt_of ra⟩
theorem dt_cmp {op : CmpOp} {r : R2} {m : D → D → Option D} (ho : OpR X (compareOp op) r) (hm : OpD g r m) (ha : DE X g E a fa) (hb : DE X g E b fb) (hk : behindInMarks op b = false := by first | exact nomark _ | rfl) : DT X g E (.Compare a [op] [b] pos) (tOf (eBin m fa fb)) := by
  obtain ⟨ta, pa, ra⟩ := ha.run
  obtain ⟨tb, pb, rb⟩ := hb.run
  exact ⟨_, pt_cmpR ho pa pb hk, dt_of (bin_run hm ra rb)⟩
def tNotM (f : TM) : TM := fun S w => (f S w).bind fun b w1 => .ok (!b) w1
def tAndM (f h : TM) : TM := fun S w => (f S w).bind fun b w1 => if b then h S w1 else .ok false w1
def tOrM (f h : TM) : TM := fun S w => (f S w).bind fun b w1 => if b then .ok true w1 else h S w1
def eIf (t : TM) (fa fb : EM) : EM := fun S w => (t S w).bind fun b w1 => if b then fa S w1 else fb S w1
def eNotM (f : EM) : EM := fun S w => (tOf f S w).bind fun b w1 => .ok (.bl (!b)) w1
def eAndM (f h : EM) : EM := fun S w => (tOf f S w).bind fun b w1 => if b then h S w1 else .ok (.bl false) w1
def eOrM (f h : EM) : EM := fun S w => (tOf f S w).bind fun b w1 => if b then .ok (.bl true) w1 else h S w1
variable {ta tb : TM} {rest : List Expr}
theorem DW.t (h : DW X g E e ta) : DT X g E e ta := let ⟨t, p, r⟩ := h.run; ⟨t, p.pt, r⟩
theorem dt_not (h : DT X g E a ta) : DT X g E (.UnaryOp .Not a pos) (tNotM ta) := by
  obtain ⟨t, p, r⟩ := h.run
  refine ⟨_, pt_not p, fun σ H Q F S w R h => ?_⟩
  exact r σ H _ F S w R (PostG.imp (PostG.bind h) fun b w1 _ h1 H1 F1 x1 => h1 H1 F1 x1)
theorem dw_and1 (h : DT X g E a ta) : DW X g E (.BoolOp .And [a] pos) ta := let ⟨t, p, r⟩ := h.run; ⟨t, pw_and1 p, r⟩
theorem dw_or1 (h : DT X g E a ta) : DW X g E (.BoolOp .Or [a] pos) ta := let ⟨t, p, r⟩ := h.run; ⟨t, pw_or1 p, r⟩
theorem dw_and (ha : DT X g E a ta) (hb : DW X g E (.BoolOp .And (b :: rest) pos) tb) : DW X g E (.BoolOp .And (a :: b :: rest) pos) (tAndM ta tb) := by
  obtain ⟨t, p, r⟩ := ha.run
  obtain ⟨t2, p2, r2⟩ := hb.run
  refine ⟨_, pw_and p p2, fun σ H Q F S w R h => ?_⟩
  refine r σ H _ F S w R (PostG.imp (PostG.bind h) fun b w1 _ h1 H1 F1 x1 => ?_)
  cases b with
  | true => exact iteT (r2 σ H1 Q F1 S w1 (R.ext x1) (PostT.of x1 h1))
  | false => exact iteF (h1 H1 F1 x1)
theorem dw_or (ha : DT X g E a ta) (hb : DW X g E (.BoolOp .Or (b :: rest) pos) tb) : DW X g E (.BoolOp .Or (a :: b :: rest) pos) (tOrM ta tb) := by
  obtain ⟨t, p, r⟩ := ha.run
  obtain ⟨t2, p2, r2⟩ := hb.run
  refine ⟨_, pw_or p p2, fun σ H Q F S w R h => ?_⟩
  refine r σ H _ F S w R (PostG.imp (PostG.bind h) fun b w1 _ h1 H1 F1 x1 => ?_)
  cases b with
  | false => exact iteF (r2 σ H1 Q F1 S w1 (R.ext x1) (PostT.of x1 h1))
  | true => exact iteT (h1 H1 F1 x1)
theorem de_if (hc : DT X g E c ta) (ha : DE X g E a fa) (hb : DE X g E b fb) : DE X g E (.IfExp c a b pos) (eIf ta fa fb) := by
  obtain ⟨t, p, r⟩ := hc.run
  obtain ⟨t1, p1, r1⟩ := ha.run
  obtain ⟨t2, p2, r2⟩ := hb.run
  refine ⟨_, pe_ifExp p p1 p2, fun σ H Q F S w R h => ?_⟩
  refine r σ H _ F S w R (PostG.imp (PostG.bind h) fun b w1 _ h1 H1 F1 x1 => ?_)
  cases b with
  | true => exact iteT (r1 σ H1 Q F1 S w1 (R.ext x1) (Post.of x1 h1))
  | false => exact iteF (r2 σ H1 Q F1 S w1 (R.ext x1) (Post.of x1 h1))
theorem de_not (ha : DE X g E a fa) : DE X g E (.UnaryOp .Not a pos) (eNotM fa) := by
  obtain ⟨t, p, r⟩ := ha.run
  refine ⟨_, pe_not p, fun σ H Q F S w R h => ?_⟩
  exact dt_of r σ H (fun b H' => Q (.bl (!b)) H') F S w R (PostG.imp (PostG.bind h) fun b w1 _ h1 H1 F1 x1 => h1 _ H1 F1 x1 (.bl _))
theorem de_one {op : BoolOp} (ha : DE X g E a fa) : DE X g E (.BoolOp op [a] pos) fa := let ⟨t, p, r⟩ := ha.run; ⟨t, pe_one p, r⟩
theorem de_and (ha : DE X g E a fa) (hb : DE X g E (.BoolOp .And (b :: rest) pos) fb) : DE X g E (.BoolOp .And (a :: b :: rest) pos) (eAndM fa fb) := by
  obtain ⟨t, p, r⟩ := ha.run
  obtain ⟨t2, p2, r2⟩ := hb.run
  refine ⟨_, pe_and p p2, fun σ H Q F S w R h => ?_⟩
  refine dt_of r σ H (fun c H1 => if c = true then t2 σ H1 Q else Q (.bl false) H1) F S w R (PostG.imp (PostG.bind h) fun b w1 _ h1 H1 F1 x1 => ?_)
  cases b with
  | true => exact iteT (r2 σ H1 Q F1 S w1 (R.ext x1) (Post.of x1 h1))
  | false => exact iteF (h1 _ H1 F1 x1 (.bl _))
def aNil : AM := fun _ w => .ok [] w
def aCons (f : EM) (h : AM) : AM := fun S w => (f S w).bind fun d w1 => (h S w1).bind fun ds w2 => .ok (d :: ds) w2
variable {fs : AM}
theorem da_nil : DA X g E [] aNil := ⟨_, pa_nil, fun σ H Q F S w R h => h [] H F R.ex .nil⟩
theorem da_cons (ha : DE X g E e fa) (hr : DA X g E es fs) (hs : starEach (e :: es) X.env = (false, eval e X.env) :: starEach es X.env := by rfl) : DA X g E (e :: es) (aCons fa fs) := by
  obtain ⟨t, p, r⟩ := ha.run
  obtain ⟨t2, p2, r2⟩ := hr.run
  refine ⟨_, pa_cons p p2 hs, fun σ H Q F S w R h => ?_⟩
  refine r σ H _ F S w R (PostG.imp (PostG.bind h) fun d w1 _ h1 v H1 F1 x1 q1 => ?_)
  refine r2 σ H1 _ F1 S w1 (R.ext x1) (PostG.ext x1 (PostG.bind h1) fun ds w2 h2 vs H2 F2 x2 q2 => ?_)
  exact h2 (v :: vs) H2 F2 (x1.trans x2) (.cons (q1.mono x2.ff) q2)
def sizeN : Nat := 16777216
def eTup (f : AM) : EM := fun S w => (f S w).bind fun ds w1 => if ds.length ≤ sizeN then .ok (.tup ds) w1 else .bad
def oLst (f : AM) : AM := fun S w => (f S w).bind fun ds w1 => if ds.length ≤ sizeN then .ok ds w1 else .bad
theorem de_tup {x1 : Nat} (h : DA X g E es fs) : DE X g E (.Tuple es x1 pos) (eTup fs) := by
  obtain ⟨t, p, r⟩ := h.run
  refine ⟨_, pe_tup p, fun σ H Q F S w R h => ?_⟩
  refine r σ H _ F S w R (PostG.imp (PostG.bind h) fun ds w1 _ h1 vs H1 F1 x1 q1 => ?_)
  by_cases hl : ds.length ≤ sizeN
  · rw [if_pos hl] at h1
    refine ⟨by rw [q1.length]; exact hl, fun p np => ?_⟩
    exact h1 _ _ _ (x1.trans (Ext.lay x1.sub x1.bx np)) (.tup (.inl (.inl upd_same)) (q1.mono (Ext.lay x1.sub x1.bx np).ff))
  · rw [if_neg hl] at h1; exact h1.elim
theorem do_lst (h : DA X g E es fs) : DO X g E (.List es pos) (oLst fs) := by
  obtain ⟨t, p, r⟩ := h.run
  refine ⟨_, pe_lst p, fun σ H Q F S w R h => ?_⟩
  refine r σ H _ F S w R (PostG.imp (PostG.bind h) fun ds w1 _ h1 vs H1 F1 x1 q1 => ?_)
  by_cases hl : ds.length ≤ sizeN
  · rw [if_pos hl] at h1
    refine ⟨by rw [q1.length]; exact hl, fun p np => ?_⟩
    exact h1 p vs _ F1 (x1.trans (Ext.own x1.sub x1.bx np)) (x1.fresh np) (free_of x1.sub x1.bx np) upd_same q1
  · rw [if_neg hl] at h1; exact h1.elim
/-- a new list that nobody will change -/
def eFrz (f : AM) : EM := fun S w => (f S w).bind fun ds w1 => .ok (.lst ds) w1
theorem DO.de (h : DO X g E e fs) : DE X g E e (eFrz fs) := by
  obtain ⟨t, p, r⟩ := h.run
  refine ⟨t, p, fun σ H Q F S w R h => ?_⟩
  refine r σ H _ F S w R (PostG.imp (PostG.bind h) fun ds w1 _ h1 p vs H1 F1 x1 np n1 hp q1 => ?_)
  have nb : p ≠ g.bx := fun e => by
    obtain ⟨c, h, _⟩ := R.bx.at_
    rw [e, h] at np; cases np
  have x2 := Ext.freeze x1 np n1 hp nb
  exact h1 (.ref p) H1 _ x2 (.lst upd_same (q1.mono (FSame.upd n1.1)))
end
end Y
namespace Y
open PySem PySem.Spec PyProof.Rows L2
mutual
def toPy : D → Option PyData
  | .non => some .none
  | .bl b => some (.bool b)
  | .int i => some (.int i)
  | .str s => some (.str s)
  | .lst ds => (toPys ds).map .list
  | .tup ds => (toPys ds).map .tuple
  | .box => none
  | .obj _ _ => none
  | .dct _ => none
  | .cel _ => none
def toPys : List D → Option (List PyData)
  | [] => some []
  | d :: ds => (toPy d).bind fun p => (toPys ds).bind fun ps => some (p :: ps)
end
mutual
theorem dp_of {g : G} {F : FH} {H : Hp} (s : Same F H) : ∀ {v : V} {d : D} {p : PyData}, DR g F v d → toPy d = some p → Dp g.K H v p
  | _, _, _, .non, e => by rw [toPy] at e; cases e; exact .non
  | _, _, _, .bl b, e => by rw [toPy] at e; cases e; exact .bl b
  | _, _, _, .int b, e => by rw [toPy] at e; cases e; exact .int b
  | _, _, _, .str b, e => by rw [toPy] at e; cases e; exact .str b
  | _, _, _, .lst (ds := ds) h r, e => by
    rw [toPy] at e
    obtain ⟨ps, e1, e2⟩ := Option.map_eq_some_iff.mp e
    subst e2
    exact .lst (.inl (.inl (s _ _ h))) (dps_of s r e1)
  | _, _, _, .tup (ds := ds) h r, e => by
    rw [toPy] at e
    obtain ⟨ps, e1, e2⟩ := Option.map_eq_some_iff.mp e
    subst e2
    exact .tup (same_T s h) (dps_of s r e1)
  | _, _, _, .box, e => by rw [toPy] at e; cases e
  | _, _, _, .obj _ _ _ _, e => by rw [toPy] at e; cases e
  | _, _, _, .dct _ _, e => by rw [toPy] at e; cases e
  | _, _, _, .cel _, e => by rw [toPy] at e; cases e
theorem dps_of {g : G} {F : FH} {H : Hp} (s : Same F H) : ∀ {v : List V} {d : List D} {p : List PyData}, DRs g F v d → toPys d = some p → DpAll g.K H v p
  | _, _, _, .nil, e => by rw [toPys] at e; cases e; exact .nil
  | _, _, _, .cons h r, e => by
    rw [toPys] at e
    obtain ⟨p, e1, e⟩ := Option.bind_eq_some_iff.mp e
    obtain ⟨ps, e2, e⟩ := Option.bind_eq_some_iff.mp e
    cases e
    exact .cons (dp_of s h e1) (dps_of s r e2)
end
def shp (d : D) : Option PyData := (toPy d).bind fun p => if SeqAt.shaped p then some p else none
theorem shp_some {d : D} {p : PyData} (h : shp d = some p) : toPy d = some p ∧ SeqAt.shaped p = true := by
  unfold shp at h
  obtain ⟨q, e1, e2⟩ := Option.bind_eq_some_iff.mp h
  by_cases hs : SeqAt.shaped q = true
  · rw [if_pos hs] at e2; cases e2; exact ⟨e1, hs⟩
  · rw [if_neg hs] at e2; cases e2

def mulS (x : Str) (n : Nat) : Str := ⟨(List.replicate n x.cps.toList).flatten.toArray⟩
def mAdd : D → D → Option D
  | .int i, .int j => some (.int (i + j))
  | .str x, .str y => if x.length + y.length ≤ sizeN then some (.str (x ++ y)) else none
  | .tup x, .tup y => if x.length + y.length ≤ sizeN then some (.tup (x ++ y)) else none
  | .lst x, .lst y => if x.length + y.length ≤ sizeN then some (.lst (x ++ y)) else none
  | _, _ => none
def mSub : D → D → Option D
  | .int i, .int j => some (.int (i - j))
  | _, _ => none
def mMul : D → D → Option D
  | .int i, .int j => if (-(2 ^ 64) < i ∧ i < 2 ^ 64) ∨ (-(2 ^ 64) < j ∧ j < 2 ^ 64) then some (.int (i * j)) else none
  | .str x, .int n => if 0 ≤ n ∧ n < 2 ^ 30 ∧ x.length * n.toNat ≤ sizeN then some (.str (mulS x n.toNat)) else none
  | .lst x, .int n => if 0 ≤ n ∧ n < 2 ^ 30 ∧ x.length * n.toNat ≤ sizeN then some (.lst (List.replicate n.toNat x).flatten) else none
  | _, _ => none
def mMod : D → D → Option D
  | .int i, .int j => if 0 < j then some (.int (i % j)) else none
  | _, _ => none
def mDiv : D → D → Option D
  | .int i, .int j => if 0 < j ∧ j < 1073741824 then some (.int (i / j)) else none
  | _, _ => none
def mPow : D → D → Option D
  | .int i, .int j => if 0 ≤ j ∧ j ≤ 1000000 ∧ i.natAbs < 2 ^ 64 then some (.int (i ^ j.toNat)) else none
  | _, _ => none
def mI (f : Int → Int → Bool) : D → D → Option D
  | .int i, .int j => some (.bl (f i j))
  | _, _ => none
def mLt : D → D → Option D
  | .int i, .int j => some (.bl (decide (i < j)))
  | .str x, .str y => some (.bl (decide (x.cps.toList < y.cps.toList)))
  | _, _ => none
def eqB : D → D → Option Bool
  | .int i, .int j => some (decide (i = j))
  | .str i, .str j => some (decide (i = j))
  | .bl i, .bl j => some (decide (i = j))
  | d, e => (shp d).bind fun p => (shp e).bind fun q => some (PyData.eqv p q)
def mEq (d e : D) : Option D := (eqB d e).map .bl
def mNe (d e : D) : Option D := (eqB d e).map fun b => .bl (!b)
def inB : D → D → Option Bool
  | .str x, .str y => match x.cps.toList with
    | [c] => some (decide (c ∈ y.cps.toList))
    | _ => some (!(Builtin.Str.occurrences y x 0 y.length 1).isEmpty)
  | d, .lst ds => (shp d).bind fun p => (shp (.lst ds)).bind fun q => match q with
    | .list ps => some (ps.any fun z => PyData.eqv z p)
    | _ => none
  | d, .tup ds => (shp d).bind fun p => (shp (.tup ds)).bind fun q => match q with
    | .tuple ps => some (ps.any fun z => PyData.eqv z p)
    | _ => none
  | _, _ => none
def mIn (d e : D) : Option D := (inB d e).map .bl
def mNotIn (d e : D) : Option D := (inB d e).map fun b => .bl (!b)
def isNon : D → Bool
  | .non => true
  | _ => false
def mIs : D → D → Option D
  | d, .non => some (.bl (isNon d))
  | _, _ => none
section
variable {X : Cx} {g : G}
theorem here {F : FH} {H : Hp} {w : Bx} {v : V} {d : D} {Q : VK} (s : Same F H) (b : BxOk g F w H) (r : DR g F v d) (q : ∀ v H' F', Ext g F H F' H' w → DR g F' v d → Q v H') : Q v H := q v H F (Ext.refl s b) r
/-- the rule of a new list, of a new tuple -/
theorem lay_l {F : FH} {H : Hp} {w : Bx} {vs : List V} {ds : List D} {Q : VK} (s : Same F H) (b : BxOk g F w H) (r : DRs g F vs ds) (q : ∀ v H' F', Ext g F H F' H' w → DR g F' v (.lst ds) → Q v H') : ∀ p, H p = none → Q (.ref p) (upd H p (.lst vs)) := fun p np =>
  q _ _ _ (Ext.lay s b np) (.lst upd_same (r.mono (Ext.lay s b np).ff))
theorem lay_t {F : FH} {H : Hp} {w : Bx} {vs : List V} {ds : List D} {Q : VK} (s : Same F H) (b : BxOk g F w H) (r : DRs g F vs ds) (q : ∀ v H' F', Ext g F H F' H' w → DR g F' v (.tup ds) → Q v H') : ∀ p, H p = none → Q (.ref p) (upd H p (.tup vs)) := fun p np =>
  q _ _ _ (Ext.lay s b np) (.tup (.inl (.inl upd_same)) (r.mono (Ext.lay s b np).ff))
def rAdd4 (K : PySem.W.Frag) : R2 := fun x y H Q => (∃ i j, x = .int i ∧ y = .int j ∧ Q (.int (i + j)) H) ∨ (∃ i j, x = .str i ∧ y = .str j ∧ i.length + j.length ≤ sizeLine ∧ Q (.str (i ++ j)) H) ∨ rCatA K x y H Q ∨ rCat x y H Q
theorem op_addX : OpR X (binaryOp .Add) (rAdd4 X.K) := OpR.or op_add (OpR.or op_add_str (OpR.or op_catA op_cat))
theorem od_add (hK : g.K = X.K) : OpD g (rAdd4 X.K) mAdd := by
  intro F H w x y d e z Q s b rx ry hz q
  rw [← hK]
  cases rx with
  | int i =>
    cases ry with
    | int j => cases hz; exact .inl ⟨i, j, rfl, rfl, here s b (.int _) q⟩
    | _ => cases hz
  | str i =>
    cases ry with
    | str j =>
      unfold mAdd at hz
      by_cases hl : i.length + j.length ≤ sizeN
      · simp only [if_pos hl] at hz; cases hz; exact .inr (.inl ⟨i, j, rfl, rfl, hl, here s b (.str _) q⟩)
      · simp only [if_neg hl] at hz; cases hz
    | _ => cases hz
  | @tup a xs ds h r =>
    cases ry with
    | @tup a2 ys es h2 r2 =>
      unfold mAdd at hz
      by_cases hl : ds.length + es.length ≤ sizeN
      · simp only [if_pos hl] at hz; cases hz
        refine .inr (.inr (.inl ⟨_, _, xs, ys, rfl, rfl, same_T s h, same_T s h2, by rw [r.length, r2.length]; exact hl, fun e0 => ?_, fun _ e0 => ?_, fun _ _ => lay_t s b (r.append r2) q⟩))
        · subst e0; cases r; exact here s b (.tup h2 r2) q
        · subst e0; cases r2; rw [List.append_nil] at q; exact here s b (.tup h r) q
      · simp only [if_neg hl] at hz; cases hz
    | _ => cases hz
  | @lst a xs ds h r =>
    cases ry with
    | @lst a2 ys es h2 r2 =>
      unfold mAdd at hz
      by_cases hl : ds.length + es.length ≤ sizeN
      · simp only [if_pos hl] at hz; cases hz
        exact .inr (.inr (.inr ⟨_, _, xs, ys, rfl, rfl, s _ _ h, s _ _ h2, by rw [r.length, r2.length]; exact hl, lay_l s b (r.append r2) q⟩))
      · simp only [if_neg hl] at hz; cases hz
    | _ => cases hz
  | _ => cases hz
theorem od_I {C : Int → Int → Prop} {f : Int → Int → Int} {m : D → D → Option D} (hm : ∀ d e z, m d e = some z → ∃ i j, d = .int i ∧ e = .int j ∧ C i j ∧ z = .int (f i j)) : OpD g (rI C fun i j => .int (f i j)) m := by
  intro F H w x y d e z Q s b rx ry hz q
  obtain ⟨i, j, rfl, rfl, hc, rfl⟩ := hm d e z hz
  cases rx; cases ry
  exact ⟨i, j, rfl, rfl, hc, here s b (.int _) q⟩
theorem od_mod : OpD g (rI (fun _ j => 0 < j) fun i j => .int (i % j)) mMod := od_I fun d e z h => by
  unfold mMod at h
  split at h
  · split at h
    · cases h; exact ⟨_, _, rfl, rfl, by assumption, rfl⟩
    · cases h
  · cases h
theorem od_div : OpD g (rI CDiv fun i j => .int (i / j)) mDiv := od_I fun d e z h => by
  unfold mDiv at h
  split at h
  · split at h
    · cases h; exact ⟨_, _, rfl, rfl, by assumption, rfl⟩
    · cases h
  · cases h
theorem od_pow : OpD g (rI CPow fun i j => .int (i ^ j.toNat)) mPow := od_I fun d e z h => by
  unfold mPow at h
  split at h
  · split at h
    · cases h; exact ⟨_, _, rfl, rfl, by assumption, rfl⟩
    · cases h
  · cases h
theorem foldl_app : ∀ (l : List (Array Nat)) (a : Array Nat), (l.foldl (· ++ ·) a).toList = a.toList ++ (l.map Array.toList).flatten
  | [], a => by simp
  | x :: l, a => by rw [List.foldl_cons, foldl_app l]; simp
theorem txt_mul (x : Str) (n : Int) (h : 0 ≤ n) : Txt.mul x n = mulS x n.toNat := by
  unfold Txt.mul mulS
  by_cases h1 : n < 1
  · rw [if_pos h1]
    have : n.toNat = 0 := by omega
    rw [this]; rfl
  · rw [if_neg h1]
    by_cases h2 : (n == 1 || x.length == 0) = true
    · rw [if_pos h2]
      obtain ⟨cs⟩ := x
      rcases Bool.or_eq_true_iff.mp h2 with h3 | h3
      · have : n = 1 := by simpa using h3
        subst this
        simp
      · have h4 : cs.size = 0 := by simpa [Str.length] using h3
        have h5 : cs = #[] := Array.size_eq_zero_iff.mp h4
        subst h5
        simp
    · rw [if_neg h2]
      congr 1
      apply Array.toList_inj.mp
      rw [foldl_app]
      simp
def rMulS : R2 := fun x y H Q => ∃ (i : Str) (n : Int), x = .str i ∧ y = .int n ∧ 0 ≤ n ∧ n < 2 ^ 30 ∧ i.length * n.toNat ≤ sizeLine ∧ Q (.str (mulS i n.toNat)) H
theorem op_mulS : OpR X (binaryOp .Mult) rMulS := by
  intro pins s σ H x y v u Q I rx ry h
  obtain ⟨i, n, rfl, rfl, h0, h1, hl, q⟩ := h
  obtain ⟨t, rfl⟩ := rx
  obtain ⟨t', rfl⟩ := ry
  refine SB.mul ⟨?_, fun hn _ => ?_, fun hn _ => ?_⟩ fun t' k => ⟨.str _, H, I.tok k, ⟨t', by rw [txt_mul i n h0]⟩, q⟩
  · rw [decide_eq_false (by omega), decide_eq_false (by omega)]; rfl
  · have hs : sizeLine = 16777216 := rfl
    rw [hs] at hl
    intro hc
    have h3 : (i.length : Int) ≤ 16777216 := by
      have : 1 ≤ n.toNat := by omega
      have : i.length * 1 ≤ i.length * n.toNat := Nat.mul_le_mul_left _ this
      omega
    have h4 : (2 ^ 63 - 1) / (2 ^ 30 : Int) ≤ (2 ^ 63 - 1) / n := by
      have hn0 : (0 : Int) < n := by omega
      rw [Int.le_ediv_iff_mul_le hn0]
      have : (2 ^ 63 - 1) / (2 ^ 30 : Int) = 8589934591 := by decide
      rw [this]
      omega
    have : (2 ^ 63 - 1) / (2 ^ 30 : Int) = 8589934591 := by decide
    omega
  · unfold Builtin.Str.tooLong
    have hs : sizeLine = 16777216 := rfl
    simp only [decide_eq_false_iff_not]
    omega
def rMul3 : R2 := fun x y H Q => rI CMul (fun i j => .int (i * j)) x y H Q ∨ rMulS x y H Q ∨ rRep x y H Q
theorem op_mulX : OpR X (binaryOp .Mult) rMul3 := OpR.or op_mul (OpR.or op_mulS op_rep)
theorem DRs.flat {g : G} {F : FH} {vs : List V} {ds : List D} (r : DRs g F vs ds) : ∀ n : Nat, DRs g F (List.replicate n vs).flatten (List.replicate n ds).flatten
  | 0 => .nil
  | n + 1 => by rw [List.replicate_succ, List.replicate_succ, List.flatten_cons, List.flatten_cons]; exact r.append (DRs.flat r n)
theorem od_mul : OpD g rMul3 mMul := by
  intro F H w x y d e z Q s b rx ry hz q
  cases rx with
  | int i =>
    cases ry with
    | int j =>
      unfold mMul at hz
      by_cases hl : (-(2 ^ 64) < i ∧ i < 2 ^ 64) ∨ (-(2 ^ 64) < j ∧ j < 2 ^ 64)
      · simp only [if_pos hl] at hz; cases hz; exact .inl ⟨i, j, rfl, rfl, hl, here s b (.int _) q⟩
      · simp only [if_neg hl] at hz; cases hz
    | _ => cases hz
  | str i =>
    cases ry with
    | int j =>
      unfold mMul at hz
      by_cases hl : 0 ≤ j ∧ j < 2 ^ 30 ∧ i.length * j.toNat ≤ sizeN
      · simp only [if_pos hl] at hz; cases hz; exact .inr (.inl ⟨i, j, rfl, rfl, hl.1, hl.2.1, hl.2.2, here s b (.str _) q⟩)
      · simp only [if_neg hl] at hz; cases hz
    | _ => cases hz
  | @lst a xs ds h r =>
    cases ry with
    | int j =>
      unfold mMul at hz
      by_cases hl : 0 ≤ j ∧ j < 2 ^ 30 ∧ ds.length * j.toNat ≤ sizeN
      · simp only [if_pos hl] at hz; cases hz
        exact .inr (.inr ⟨_, j, xs, rfl, rfl, s _ _ h, by omega, by omega, by rw [r.length]; exact hl.2.2, lay_l s b (r.flat _) q⟩)
      · simp only [if_neg hl] at hz; cases hz
    | _ => cases hz
  | _ => cases hz
theorem od_B0 {f : Int → Int → Bool} : OpD g (rI0 fun i j => .bl (f i j)) (mI f) := by
  intro F H w x y d e z Q s b rx ry hz q
  unfold mI at hz
  split at hz
  · cases hz; cases rx; cases ry; exact ⟨_, _, rfl, rfl, here s b (.bl _) q⟩
  · cases hz
def rLt2 : R2 := fun x y H Q => rI0 (fun i j => .bl (decide (i < j))) x y H Q ∨ (∃ i j, x = .str i ∧ y = .str j ∧ Q (.bl (decide (i.cps.toList < j.cps.toList))) H)
theorem op_ltX : OpR X (compareOp .Lt) rLt2 := OpR.or op_lt op_lt_str
theorem od_lt : OpD g rLt2 mLt := by
  intro F H w x y d e z Q s b rx ry hz q
  unfold mLt at hz
  split at hz
  · cases hz; cases rx; cases ry; exact .inl ⟨_, _, rfl, rfl, here s b (.bl _) q⟩
  · cases hz; cases rx; cases ry; exact .inr ⟨_, _, rfl, rfl, here s b (.bl _) q⟩
  · cases hz
def rEq2 (K : PySem.W.Frag) : R2 := fun x y H Q => rEq x y H Q ∨ rEqD K x y H Q
def rNe2 (K : PySem.W.Frag) : R2 := fun x y H Q => rNe x y H Q ∨ rNeD K x y H Q
theorem op_eqX (hu : X.A.units + 64 < cLine) : OpR X (compareOp .Eq) (rEq2 X.K) := OpR.or op_eq (op_eqD hu)
theorem op_neX (hu : X.A.units + 64 < cLine) : OpR X (compareOp .NotEq) (rNe2 X.K) := OpR.or op_ne (op_neD hu)
theorem eq_cases {F : FH} {H : Hp} {x y : V} {d e : D} {b : Bool} (s : Same F H) (rx : DR g F x d) (ry : DR g F y e) (h : eqB d e = some b) :
    (scal x y = true ∧ b = decide (x = y)) ∨ ∃ p q, Dp g.K H x p ∧ Dp g.K H y q ∧ SeqAt.shaped p = true ∧ SeqAt.shaped q = true ∧ b = PyData.eqv p q := by
  have gen : ∀ {d e : D}, DR g F x d → DR g F y e → ((shp d).bind fun p => (shp e).bind fun q => some (PyData.eqv p q)) = some b →
      ∃ p q, Dp g.K H x p ∧ Dp g.K H y q ∧ SeqAt.shaped p = true ∧ SeqAt.shaped q = true ∧ b = PyData.eqv p q := fun rx ry h => by
    obtain ⟨p, e1, h⟩ := Option.bind_eq_some_iff.mp h
    obtain ⟨q, e2, h⟩ := Option.bind_eq_some_iff.mp h
    cases h
    obtain ⟨a1, a2⟩ := shp_some e1
    obtain ⟨b1, b2⟩ := shp_some e2
    exact ⟨p, q, dp_of s rx a1, dp_of s ry b1, a2, b2, rfl⟩
  unfold eqB at h
  split at h
  · cases h; cases rx; cases ry; exact .inl ⟨rfl, by simp⟩
  · cases h; cases rx; cases ry; exact .inl ⟨rfl, by simp⟩
  · cases h; cases rx; cases ry; exact .inl ⟨rfl, by simp⟩
  · exact .inr (gen rx ry h)
theorem od_eq (hK : g.K = X.K) : OpD g (rEq2 X.K) mEq := by
  intro F H w x y d e z Q s b rx ry hz q
  rw [← hK]
  obtain ⟨k, e1, e2⟩ := Option.map_eq_some_iff.mp hz
  subst e2
  rcases eq_cases s rx ry e1 with ⟨h1, h2⟩ | ⟨p, r, h1, h2, h3, h4, h5⟩
  · subst h2; exact .inl ⟨h1, here s b (.bl _) q⟩
  · subst h5; exact .inr ⟨p, r, h1, h2, h3, h4, here s b (.bl _) q⟩
theorem od_ne (hK : g.K = X.K) : OpD g (rNe2 X.K) mNe := by
  intro F H w x y d e z Q s b rx ry hz q
  rw [← hK]
  obtain ⟨k, e1, e2⟩ := Option.map_eq_some_iff.mp hz
  subst e2
  rcases eq_cases s rx ry e1 with ⟨h1, h2⟩ | ⟨p, r, h1, h2, h3, h4, h5⟩
  · subst h2; exact .inl ⟨h1, here s b (.bl _) q⟩
  · subst h5; exact .inr ⟨p, r, h1, h2, h3, h4, here s b (.bl _) q⟩
def rInT (K : PySem.W.Frag) (ng : Bool) : R2 := fun x y H Q => ∃ d ds, Dp K H x d ∧ Dp K H y (.tuple ds) ∧ SeqAt.shaped d = true ∧ SeqAt.shaped (.tuple ds) = true ∧ Q (.bl (if ng then !(ds.any fun z => PyData.eqv z d) else ds.any fun z => PyData.eqv z d)) H
theorem op_inT (hu : X.A.units + 65 < cLine) : OpR X (compareOp .In) (rInT X.K false) := by
  intro pins s σ H x y v u Q I rx ry h
  obtain ⟨d, ds, hd, he, sd, se, q⟩ := h
  obtain ⟨as, r1⟩ := Dp.reads I d x v hd rx
  obtain ⟨bs, r2⟩ := Dp.reads I (.tuple ds) y u he ry
  exact SeqAt.in_tuple_reads r2 r1 (SeqAt.canLay_of_shaped se) (SeqAt.canLay_of_shaped sd) (room_in_shaped sd hu) ⟨.bl _, H, I, rfl, q⟩
def rIn4 (K : PySem.W.Frag) : R2 := fun x y H Q => (∃ (c : Nat) (z : Str), x = .str ⟨#[c]⟩ ∧ y = .str z ∧ Q (.bl (decide (c ∈ z.cps.toList))) H) ∨ (∃ i j, x = .str i ∧ y = .str j ∧ Q (.bl (!(Builtin.Str.occurrences j i 0 j.length 1).isEmpty)) H) ∨ rInD K x y H Q ∨ rInT K false x y H Q
theorem op_inX (hu : X.A.units + 65 < cLine) : OpR X (compareOp .In) (rIn4 X.K) := OpR.or op_in_sign (OpR.or op_in_str (OpR.or (op_inD hu) (op_inT hu)))
theorem in_cases {F : FH} {H : Hp} {x y : V} {d e : D} {b : Bool} (s : Same F H) (rx : DR g F x d) (ry : DR g F y e) (h : inB d e = some b) :
    (∃ (c : Nat) (z : Str), x = .str ⟨#[c]⟩ ∧ y = .str z ∧ b = decide (c ∈ z.cps.toList)) ∨ (∃ i j, x = .str i ∧ y = .str j ∧ b = !(Builtin.Str.occurrences j i 0 j.length 1).isEmpty) ∨
    (∃ p ps, Dp g.K H x p ∧ Dp g.K H y (.list ps) ∧ SeqAt.shaped p = true ∧ SeqAt.shaped (.list ps) = true ∧ b = ps.any fun z => PyData.eqv z p) ∨
    (∃ p ps, Dp g.K H x p ∧ Dp g.K H y (.tuple ps) ∧ SeqAt.shaped p = true ∧ SeqAt.shaped (.tuple ps) = true ∧ b = ps.any fun z => PyData.eqv z p) := by
  unfold inB at h
  split at h
  · rename_i xs ys
    cases rx; cases ry
    split at h
    · rename_i c hc
      cases h
      refine .inl ⟨c, ys, ?_, rfl, rfl⟩
      have e : xs.cps = #[c] := by rw [← Array.toList_inj]; simpa using hc
      obtain ⟨cs⟩ := xs
      rw [show cs = #[c] from e]
    · cases h; exact .inr (.inl ⟨_, _, rfl, rfl, rfl⟩)
  · obtain ⟨p, e1, h⟩ := Option.bind_eq_some_iff.mp h
    obtain ⟨q, e2, h⟩ := Option.bind_eq_some_iff.mp h
    obtain ⟨a1, a2⟩ := shp_some e1
    obtain ⟨b1, b2⟩ := shp_some e2
    split at h
    · cases h; exact .inr (.inr (.inl ⟨p, _, dp_of s rx a1, dp_of s ry b1, a2, b2, rfl⟩))
    · cases h
  · obtain ⟨p, e1, h⟩ := Option.bind_eq_some_iff.mp h
    obtain ⟨q, e2, h⟩ := Option.bind_eq_some_iff.mp h
    obtain ⟨a1, a2⟩ := shp_some e1
    obtain ⟨b1, b2⟩ := shp_some e2
    split at h
    · cases h; exact .inr (.inr (.inr ⟨p, _, dp_of s rx a1, dp_of s ry b1, a2, b2, rfl⟩))
    · cases h
  · cases h
theorem od_in (hK : g.K = X.K) : OpD g (rIn4 X.K) mIn := by
  intro F H w x y d e z Q s b rx ry hz q
  rw [← hK]
  obtain ⟨k, e1, e2⟩ := Option.map_eq_some_iff.mp hz
  subst e2
  rcases in_cases s rx ry e1 with ⟨c, z, h1, h2, h3⟩ | ⟨i, j, h1, h2, h3⟩ | ⟨p, ps, h1, h2, h3, h4, h5⟩ | ⟨p, ps, h1, h2, h3, h4, h5⟩
  · subst h3; exact .inl ⟨c, z, h1, h2, here s b (.bl _) q⟩
  · subst h3; exact .inr (.inl ⟨i, j, h1, h2, here s b (.bl _) q⟩)
  · subst h5; exact .inr (.inr (.inl ⟨p, ps, h1, h2, h3, h4, here s b (.bl _) q⟩))
  · subst h5; exact .inr (.inr (.inr ⟨p, ps, h1, h2, h3, h4, here s b (.bl _) q⟩))
theorem isNon_dec {F : FH} {x : V} {d : D} (r : DR g F x d) : isNon d = decide (x = .non) := by
  cases r <;> simp [isNon]
theorem od_is : OpD g (fun x y H Q => y = .non ∧ Q (.bl (decide (x = .non))) H) mIs := by
  intro F H w x y d e z Q s b rx ry hz q
  unfold mIs at hz
  split at hz
  · cases hz; cases ry; rw [isNon_dec rx] at q; exact ⟨rfl, here s b (.bl _) q⟩
  · cases hz
end
end Y
namespace Y
open PySem PySem.Spec PyProof.Rows L2
def mIx : D → D → Option D
  | .lst ds, .int i => atI ds i
  | .tup ds, .int i => atI ds i
  | .str z, .int i => if z.length ≤ sizeN then (atI z.cps.toList i).map fun c => .str ⟨#[c]⟩ else none
  | _, _ => none
theorem DRs.atI {g : G} {F : FH} {vs : List V} {ds : List D} {i : Int} {d : D} (r : DRs g F vs ds) (h : L2.atI ds i = some d) : ∃ v, L2.atI vs i = some v ∧ DR g F v d := by
  unfold L2.atI at h ⊢
  rw [r.length]
  cases e : ixN ds.length i with
  | none => rw [e] at h; cases h
  | some j => rw [e] at h; exact r.get h
section
variable {X : Cx} {g : G} {E : EK} {e a b c : Expr} {es : List Expr} {pos p p2 : Pos} {fa fb f : EM} {fs : AM} {lo hi : Option Expr} {x : Str} {id T : String}
theorem od_ix (hK : g.K = X.K) : OpD g (rIx X.K) mIx := by
  intro F H w x y d e z Q s b rx ry hz q
  rw [← hK]
  cases rx with
  | @lst a xs ds h r =>
    cases ry with
    | int j =>
      obtain ⟨v, e1, e2⟩ := r.atI (i := j) hz
      exact .inl ⟨_, xs, j, v, rfl, rfl, .inl (.inl (s _ _ h)), e1, here s b e2 q⟩
    | _ => cases hz
  | @tup a xs ds h r =>
    cases ry with
    | int j =>
      obtain ⟨v, e1, e2⟩ := r.atI (i := j) hz
      exact .inr (.inl ⟨_, xs, j, v, rfl, rfl, same_T s h, e1, here s b e2 q⟩)
    | _ => cases hz
  | str i =>
    cases ry with
    | int j =>
      unfold mIx at hz
      by_cases hl : i.length ≤ sizeN
      · simp only [if_pos hl] at hz
        obtain ⟨c, e1, e2⟩ := Option.map_eq_some_iff.mp hz
        subst e2
        exact .inr (.inr ⟨i, j, c, rfl, rfl, hl, e1, here s b (.str _) q⟩)
      · simp only [if_neg hl] at hz; cases hz
    | _ => cases hz
  | _ => cases hz
theorem de_ix (hK : g.K = X.K) (ha : DE X g E a fa) (hb : DE X g E b fb) (hs : PlainIx b := by exact fun _ _ => rfl) : DE X g E (.Subscript a b pos) (eBin mIx fa fb) := by
  obtain ⟨ta, pa, ra⟩ := ha.run
  obtain ⟨tb, pb, rb⟩ := hb.run
  exact ⟨_, pe_ix ix_seq pa pb hs, bin_run (od_ix hK) ra rb⟩
structure DP (X : Cx) (g : G) (E : EK) (e : Option Expr) (f : SL → Bx → R (Option Int)) : Prop where
  run : ∃ t, PO X e t ∧ ∀ σ H (Q : Option Int → Hp → Prop) F S w, Rel g F w S σ H → PostG g F H (E σ) (fun o w' => ∀ H' F', Ext g F H F' H' w' → Q o H') (f S w) → t σ H Q
def pNone : SL → Bx → R (Option Int) := fun _ w => .ok none w
def pSome (f : EM) : SL → Bx → R (Option Int) := fun S w => (f S w).bind fun d w1 => match d with
  | .int i => .ok (some i) w1
  | _ => .bad
theorem dp_none : DP X g E none pNone := ⟨_, po_none, fun σ H Q F S w R h => h H F R.ex⟩
theorem dp_some (h : DE X g E e f) : DP X g E (some e) (pSome f) := by
  obtain ⟨t, p, r⟩ := h.run
  refine ⟨_, po_some p, fun σ H Q F S w R h => ?_⟩
  refine r σ H _ F S w R (PostG.imp (PostG.bind h) fun d w1 _ h1 v H1 F1 x1 r1 => ?_)
  cases r1 with
  | int i => exact ⟨i, rfl, h1 H1 F1 x1⟩
  | _ => exact h1.elim
def cut {α : Type} (xs : List α) (lo hi : Option Int) : List α := (xs.drop (HT.sIx xs.length 0 lo)).take (HT.sIx xs.length xs.length hi - HT.sIx xs.length 0 lo)
def mSl : D → Option Int → Option Int → Option D
  | .lst ds, lo, hi => some (.lst (cut ds lo hi))
  | .tup ds, lo, hi => some (.tup (cut ds lo hi))
  | .str z, lo, hi => if z.length ≤ sizeN then some (.str (cutS z lo hi)) else none
  | _, _, _ => none
def eSl (f : EM) (l h : SL → Bx → R (Option Int)) : EM := fun S w => (f S w).bind fun d w1 => (l S w1).bind fun lo w2 => (h S w2).bind fun hi w3 => R.ofO (mSl d lo hi) w3
theorem DRs.cut {F : FH} {vs : List V} {ds : List D} (r : DRs g F vs ds) (lo hi : Option Int) : DRs g F (cutV vs lo hi) (Y.cut ds lo hi) := by
  unfold cutV Y.cut
  rw [r.length]
  exact (r.drop _).take _
theorem cut_all {α : Type} {xs : List α} {lo hi : Option Int} (h : HT.sIx xs.length 0 lo = 0 ∧ HT.sIx xs.length xs.length hi = xs.length) : cut xs lo hi = xs := by
  unfold cut
  rw [h.1, h.2]
  simp
def rSl3 (K : PySem.W.Frag) : V → Option Int → Option Int → Hp → VK → Prop := fun x lo hi H Q => rSlL K x lo hi H Q ∨ rSlA K x lo hi H Q ∨ rSlS x lo hi H Q
theorem sl_X : SlR X (rSl3 X.K) := SlR.or sl_list (SlR.or sl_tupA sl_str)
variable {fl fh : SL → Bx → R (Option Int)}
theorem de_slice (hK : g.K = X.K) (ha : DE X g E a fa) (hl : DP X g E lo fl) (hh : DP X g E hi fh) : DE X g E (.Subscript a (.Slice lo hi none p2) pos) (eSl fa fl fh) := by
  obtain ⟨ta, pa, ra⟩ := ha.run
  obtain ⟨tl, pl, rl⟩ := hl.run
  obtain ⟨th, ph, rh⟩ := hh.run
  refine ⟨_, pe_slice sl_X pa pl ph, fun σ H Q F S w R h => ?_⟩
  refine ra σ H _ F S w R (PostG.imp (PostG.bind h) fun d w1 _ h1 v H1 F1 x1 r1 => ?_)
  refine rl σ H1 _ F1 S w1 (R.ext x1) (PostG.ext x1 (PostG.bind h1) fun l w2 h2 H2 F2 x2 => ?_)
  have x12 := x1.trans x2
  refine rh σ H2 _ F2 S w2 (R.ext x12) (PostG.ext x12 (PostG.bind h2) fun u w3 h3 H3 F3 x3 => ?_)
  have x13 := x12.trans x3
  obtain ⟨z, hz, q⟩ := post_ofO h3
  have q' : ∀ v H' F', Ext g F3 H3 F' H' w3 → DR g F' v z → Q v H' := fun v' H' F' x4 r4 => q v' H' F' (x13.trans x4) r4
  have r3 := r1.mono (x2.trans x3).ff
  rw [← hK]
  cases r3 with
  | @lst a xs ds h r =>
    cases hz
    exact .inl ⟨_, xs, rfl, .inl (.inl (x3.sub _ _ h)), lay_l x3.sub x3.bx (r.cut l u) q'⟩
  | @tup a xs ds h r =>
    cases hz
    refine .inr (.inl ⟨_, xs, rfl, same_T x3.sub h, fun he => ?_, fun _ => lay_t x3.sub x3.bx (r.cut l u) q'⟩)
    rw [r.length] at he
    rw [cut_all he] at q'
    exact here x3.sub x3.bx (.tup h r) q'
  | str i =>
    unfold mSl at hz
    by_cases hl : i.length ≤ sizeN
    · simp only [if_pos hl] at hz; cases hz
      exact .inr (.inr ⟨i, rfl, hl, here x3.sub x3.bx (.str _) q'⟩)
    · simp only [if_neg hl] at hz; cases hz
  | _ => cases hz
def CallD (g : G) (r : List V → Hp → VK → Prop) (m : List D → Option D) : Prop := ∀ (F : FH) (H : Hp) (w : Bx) (vs : List V) (ds : List D) (z : D) (Q : VK), Same F H → BxOk g F w H → DRs g F vs ds → m ds = some z →
  (∀ v H' F', Ext g F H F' H' w → DR g F' v z → Q v H') → r vs H Q
def CallO (g : G) (r : List V → Hp → VK → Prop) (m : List D → Option (List D)) : Prop := ∀ (F : FH) (H : Hp) (w : Bx) (vs : List V) (ds : List D) (z : List D) (Q : VK), Same F H → BxOk g F w H → DRs g F vs ds → m ds = some z →
  (∀ p us H' F', Ext g F H F' H' w → H p = none → F'.free p → H' p = some (.lst us) → DRs g F' us z → Q (.ref p) H') → r vs H Q
def eB (m : List D → Option D) (fs : AM) : EM := fun S w => (fs S w).bind fun ds w1 => R.ofO (m ds) w1
def oB (m : List D → Option (List D)) (fs : AM) : AM := fun S w => (fs S w).bind fun ds w1 => R.ofO (m ds) w1
variable {r : List V → Hp → VK → Prop} {m : List D → Option D} {mo : List D → Option (List D)}
theorem cb_run {ta : TA} (hm : CallD g r m) (ra : ∀ σ H Q F S w, Rel g F w S σ H → PostA g F H Q (E σ) (fs S w) → ta σ H Q) : ∀ σ H Q F S w, Rel g F w S σ H → Post g F H Q (E σ) (eB m fs S w) → tCB r ta σ H Q := by
  intro σ H Q F S w R h
  refine ra σ H _ F S w R (PostG.imp (PostG.bind h) fun ds w1 _ h1 vs H1 F1 x1 r1 => ?_)
  obtain ⟨z, hz, q⟩ := post_ofO h1
  exact hm F1 H1 w1 vs ds z Q x1.sub x1.bx r1 hz fun v' H' F' x2 r2 => q v' H' F' (x1.trans x2) r2
theorem co_run {ta : TA} (hm : CallO g r mo) (ra : ∀ σ H Q F S w, Rel g F w S σ H → PostA g F H Q (E σ) (fs S w) → ta σ H Q) : ∀ σ H Q F S w, Rel g F w S σ H → PostO g F H Q (E σ) (oB mo fs S w) → tCB r ta σ H Q := by
  intro σ H Q F S w R h
  refine ra σ H _ F S w R (PostG.imp (PostG.bind h) fun ds w1 _ h1 vs H1 F1 x1 r1 => ?_)
  obtain ⟨z, hz, q⟩ := post_ofO' h1
  exact hm F1 H1 w1 vs ds z Q x1.sub x1.bx r1 hz fun p us H' F' x2 n1 n2 hp r2 => q p us H' F' (x1.trans x2) (x1.fresh n1) n2 hp r2
theorem de_callB (hc : CallR X (.builtin id) r) (hd : CallD g r m) (hm : X.mg x = none) (hv : bootBuiltins x = some (.builtin id)) (ha : DA X g E (e :: es) fs) (hg : Gl X x := by rfl) (hn : x ≠ "__name__" := by decide) (hdb : (x == ("__debug__" : Str)) = false := by decide)
    (he : starEach (e :: es) X.env = (false, eval e X.env) :: starEach es X.env := by rfl) (hpl : (backTo pos (starEach es X.env)).any (·.1) = false := by rfl) : DE X g E (.Call (.Name x p) (e :: es) [] pos) (eB m fs) := by
  obtain ⟨ta, pa, ra⟩ := ha.run
  exact ⟨_, pe_callB hc hg hm hv pa hn hdb he hpl, cb_run hd ra⟩
theorem de_callTy (hc : CallR X (.type T) r) (hd : CallD g r m) (hm : X.mg x = none) (hv : bootBuiltins x = some (.type T)) (ha : DA X g E (e :: es) fs) (hg : Gl X x := by rfl) (hn : x ≠ "__name__" := by decide) (hdb : (x == ("__debug__" : Str)) = false := by decide)
    (he : starEach (e :: es) X.env = (false, eval e X.env) :: starEach es X.env := by rfl) (hpl : (backTo pos (starEach es X.env)).any (·.1) = false := by rfl) : DE X g E (.Call (.Name x p) (e :: es) [] pos) (eB m fs) := by
  obtain ⟨ta, pa, ra⟩ := ha.run
  exact ⟨_, pe_callTy hc hg hm hv pa hn hdb he hpl, cb_run hd ra⟩
theorem do_callTy (hc : CallR X (.type T) r) (hd : CallO g r mo) (hm : X.mg x = none) (hv : bootBuiltins x = some (.type T)) (ha : DA X g E (e :: es) fs) (hg : Gl X x := by rfl) (hn : x ≠ "__name__" := by decide) (hdb : (x == ("__debug__" : Str)) = false := by decide)
    (he : starEach (e :: es) X.env = (false, eval e X.env) :: starEach es X.env := by rfl) (hpl : (backTo pos (starEach es X.env)).any (·.1) = false := by rfl) : DO X g E (.Call (.Name x p) (e :: es) [] pos) (oB mo fs) := by
  obtain ⟨ta, pa, ra⟩ := ha.run
  exact ⟨_, pe_callTy hc hg hm hv pa hn hdb he hpl, co_run hd ra⟩
theorem drs1 {F : FH} {vs : List V} {d : D} (r : DRs g F vs [d]) : ∃ v, vs = [v] ∧ DR g F v d := by
  cases r with
  | cons h r => cases r; exact ⟨_, rfl, h⟩
theorem drs2 {F : FH} {vs : List V} {d e : D} (r : DRs g F vs [d, e]) : ∃ v u, vs = [v, u] ∧ DR g F v d ∧ DR g F u e := by
  cases r with
  | cons h r => obtain ⟨u, rfl, h2⟩ := drs1 r; exact ⟨_, u, rfl, h, h2⟩
def mLen : List D → Option D
  | [.lst ds] => some (.int (ds.length : Int))
  | [.tup ds] => some (.int (ds.length : Int))
  | [.str z] => if z.length ≤ sizeN then some (.int (z.length : Int)) else none
  | _ => none
theorem cd_len (hK : g.K = X.K) : CallD g (fun xs H Q => ∃ x n, xs = [x] ∧ LenV X.K x H n ∧ Q (.int (n : Int)) H) mLen := by
  intro F H w vs ds z Q s b r hz q
  rw [← hK]
  unfold mLen at hz
  split at hz
  · cases hz
    obtain ⟨v, rfl, h⟩ := drs1 r
    cases h with
    | lst h r => exact ⟨_, _, rfl, .inl ⟨_, .inl (.inl (s _ _ h)), rfl⟩, by rw [r.length]; exact here s b (.int _) q⟩
  · cases hz
    obtain ⟨v, rfl, h⟩ := drs1 r
    cases h with
    | tup h r => exact ⟨_, _, rfl, .inr ⟨_, same_T s h, rfl⟩, by rw [r.length]; exact here s b (.int _) q⟩
  · rename_i y
    obtain ⟨v, rfl, h⟩ := drs1 r
    cases h
    by_cases hl : y.length ≤ sizeN
    · simp only [if_pos hl] at hz; cases hz; exact ⟨_, _, rfl, ⟨hl, rfl⟩, here s b (.int _) q⟩
    · simp only [if_neg hl] at hz; cases hz
  · cases hz
theorem de_len (hK : g.K = X.K) (hm : X.mg "len" = none) (ha : DA X g E (e :: es) fs) (hg : Gl X "len" := by rfl)
    (he : starEach (e :: es) X.env = (false, eval e X.env) :: starEach es X.env := by rfl) (hpl : (backTo pos (starEach es X.env)).any (·.1) = false := by rfl) : DE X g E (.Call (.Name "len" p) (e :: es) [] pos) (eB mLen fs) :=
  de_callB call_len (cd_len hK) hm PySem.boot_len ha hg (by decide) (by decide) he hpl
def blsOf : List D → Option (List Bool)
  | [] => some []
  | .bl b :: ds => (blsOf ds).map (b :: ·)
  | _ => none
theorem bls_of {F : FH} : ∀ {vs : List V} {ds : List D} {bs : List Bool}, DRs g F vs ds → blsOf ds = some bs → vs = bs.map V.bl
  | _, _, _, .nil, h => by cases h; rfl
  | _, _, bs, .cons h r, e => by
    cases h with
    | bl b =>
      rw [blsOf] at e
      obtain ⟨cs, e1, e2⟩ := Option.map_eq_some_iff.mp e
      subst e2
      rw [bls_of r e1]; rfl
    | _ => cases e
def mAll : List D → Option D
  | [.lst ds] => (blsOf ds).map fun bs => .bl (bs.all _root_.id)
  | _ => none
theorem cd_all (hK : g.K = X.K) : CallD g (rAll X.K) mAll := by
  intro F H w vs ds z Q s b r hz q
  rw [← hK]
  unfold mAll at hz
  split at hz
  · obtain ⟨bs, e1, e2⟩ := Option.map_eq_some_iff.mp hz
    subst e2
    obtain ⟨v, rfl, h⟩ := drs1 r
    cases h with
    | lst h r =>
      have e := bls_of r e1
      subst e
      exact ⟨_, bs, rfl, .inl (.inl (s _ _ h)), here s b (.bl _) q⟩
  · cases hz
theorem de_all (hK : g.K = X.K) (hcm : X.calm = true) (hm : X.mg "all" = none) (ha : DA X g E (e :: es) fs) (hg : Gl X "all" := by rfl)
    (he : starEach (e :: es) X.env = (false, eval e X.env) :: starEach es X.env := by rfl) (hpl : (backTo pos (starEach es X.env)).any (·.1) = false := by rfl) : DE X g E (.Call (.Name "all" p) (e :: es) [] pos) (eB mAll fs) :=
  de_callB (cr_all hcm) (cd_all hK) hm (by decide +kernel) ha hg (by decide) (by decide) he hpl
def mList : List D → Option (List D)
  | [.lst ds] => some ds
  | [.tup ds] => some ds
  | _ => none
theorem own_new {F : FH} {H : Hp} {w : Bx} {us : List V} {z : List D} {Q : VK} (s : Same F H) (b : BxOk g F w H) (r : DRs g F us z)
    (q : ∀ p us H' F', Ext g F H F' H' w → H p = none → F'.free p → H' p = some (.lst us) → DRs g F' us z → Q (.ref p) H') : ∀ p, H p = none → Q (.ref p) (upd H p (.lst us)) := fun p np =>
  q p us _ F (Ext.own s b np) np (free_of s b np) upd_same r
theorem co_list (hK : g.K = X.K) : CallO g (fun xs H Q => ∃ p ys, xs = [.ref p] ∧ (SqL X.K H p ys ∨ SqT X.K H p ys) ∧ ∀ l, H l = none → Q (.ref l) (upd H l (.lst ys))) mList := by
  intro F H w vs ds z Q s b r hz q
  rw [← hK]
  unfold mList at hz
  split at hz
  · cases hz
    obtain ⟨v, rfl, h⟩ := drs1 r
    cases h with
    | lst h r => exact ⟨_, _, rfl, .inl (.inl (.inl (s _ _ h))), own_new s b r q⟩
  · cases hz
    obtain ⟨v, rfl, h⟩ := drs1 r
    cases h with
    | tup h r => exact ⟨_, _, rfl, .inr (same_T s h), own_new s b r q⟩
  · cases hz
theorem do_list (hK : g.K = X.K) (hm : X.mg "list" = none) (ha : DA X g E (e :: es) fs) (hg : Gl X "list" := by rfl)
    (he : starEach (e :: es) X.env = (false, eval e X.env) :: starEach es X.env := by rfl) (hpl : (backTo pos (starEach es X.env)).any (·.1) = false := by rfl) : DO X g E (.Call (.Name "list" p) (e :: es) [] pos) (oB mList fs) :=
  do_callTy call_list_of (co_list hK) hm (by decide +kernel) ha hg (by decide) (by decide) he hpl
def mStr : List D → Option D
  | [.int i] => if i.natAbs.log2 < 1920 then some (.str (toString i)) else none
  | _ => none
theorem cd_str : CallD g (fun xs H Q => ∃ i, xs = [.int i] ∧ i.natAbs.log2 < 1920 ∧ Q (.str (toString i)) H) mStr := by
  intro F H w vs ds z Q s b r hz q
  unfold mStr at hz
  split at hz
  · rename_i i
    obtain ⟨v, rfl, h⟩ := drs1 r
    cases h
    by_cases hl : i.natAbs.log2 < 1920
    · simp only [if_pos hl] at hz; cases hz; exact ⟨_, rfl, hl, here s b (.str _) q⟩
    · simp only [if_neg hl] at hz; cases hz
  · cases hz
theorem de_strI (hm : X.mg "str" = none) (ha : DA X g E (e :: es) fs) (hg : Gl X "str" := by rfl)
    (he : starEach (e :: es) X.env = (false, eval e X.env) :: starEach es X.env := by rfl) (hpl : (backTo pos (starEach es X.env)).any (·.1) = false := by rfl) : DE X g E (.Call (.Name "str" p) (e :: es) [] pos) (eB mStr fs) :=
  de_callTy call_str_int cd_str hm (by decide +kernel) ha hg (by decide) (by decide) he hpl
def tyN : D → Option String
  | .non => some "NoneType"
  | .bl _ => some "bool"
  | .int _ => some "int"
  | .str _ => some "str"
  | .lst _ => some "list"
  | .tup _ => some "tuple"
  | _ => none
def isSub (a T : String) : Bool := a == T || (a == "bool" && T == "int")
def mIsi (T : String) : D → Option D := fun d => (tyN d).map fun a => .bl (isSub a T)
def e1 (m : D → Option D) (f : EM) : EM := fun S w => (f S w).bind fun d w1 => R.ofO (m d) w1
theorem ty_of {F : FH} {H : Hp} {v : V} {d : D} {a : String} (s : Same F H) (r : DR g F v d) (h : tyN d = some a) : TyX g.K H v (.type a) := by
  cases r with
  | non => cases h; exact .base .non
  | bl b => cases h; exact .base (.bl b)
  | int b => cases h; exact .base (.int b)
  | str b => cases h; exact .base (.str b)
  | lst q r => cases h; exact .base (.lst (s _ _ q))
  | tup q r =>
    cases h
    rcases q with (q | ⟨o, q⟩) | ⟨o, its, n, q, c, _⟩
    · exact .base (.tup (s _ _ q))
    · exact .fTuple (s _ _ q)
    · exact .kTuple q c
  | _ => cases h
def kitOk (T : String) : Prop := ∀ a ∈ ["NoneType", "bool", "int", "str", "list", "tuple"], kitB a T = some (isSub a T)
theorem tyN_mem {d : D} {a : String} (h : tyN d = some a) : a ∈ ["NoneType", "bool", "int", "str", "list", "tuple"] := by
  cases d <;> simp [tyN] at h <;> subst h <;> simp
theorem kit_bool : kitOk "bool" := by unfold kitOk; decide +kernel
theorem kit_int : kitOk "int" := by unfold kitOk; decide +kernel
theorem kit_str : kitOk "str" := by unfold kitOk; decide +kernel
theorem kit_list : kitOk "list" := by unfold kitOk; decide +kernel
theorem kit_tuple : kitOk "tuple" := by unfold kitOk; decide +kernel
theorem de_isi {N : Str} {p3 : Pos} (hK : g.K = X.K) (kt : kitOk T) (hmN : X.mg N = none) (hvN : bootBuiltins N = some (.type T)) (hm : X.mg "isinstance" = none) (ha : DE X g E e f) (hgN : Gl X N := by rfl) (hg : Gl X "isinstance" := by rfl) (hnN : N ≠ "__name__" := by decide) (hdN : (N == ("__debug__" : Str)) = false := by decide)
    (he : starEach [e, .Name N p3] X.env = (false, eval e X.env) :: starEach [.Name N p3] X.env := by rfl) (he2 : starEach [.Name N p3] X.env = (false, eval (.Name N p3) X.env) :: starEach [] X.env := by rfl) (hpl : (backTo pos (starEach [.Name N p3] X.env)).any (·.1) = false := by rfl) :
    DE X g E (.Call (.Name "isinstance" p) [e, .Name N p3] [] pos) (e1 (mIsi T) f) := by
  obtain ⟨ta, pa, ra⟩ := ha.run
  refine ⟨_, pe_callB call_isi hg hm (by decide +kernel) (pa_cons pa (pa_cons (pe_bltn (v := .ty T) hgN hmN hvN rfl hnN hdN) pa_nil he2) he) (by decide) (by decide) he hpl, fun σ H Q F S w R h => ?_⟩
  refine ra σ H _ F S w R (PostG.imp (PostG.bind h) fun d w1 _ h1 v H1 F1 x1 r1 => ?_)
  obtain ⟨z, hz, q⟩ := post_ofO h1
  obtain ⟨a, e1, e2⟩ := Option.map_eq_some_iff.mp hz
  subst e2
  rw [← hK]
  exact ⟨v, .ty T, .type a, .type T, _, rfl, .ty T, ty_of x1.sub r1 e1, kit_ty (kt a (tyN_mem e1)), q _ H1 F1 x1 (.bl _)⟩
end
end Y
namespace Y
open PySem PySem.Spec PyProof.Rows L2
/-- the promise of a def that does m -/
def spM (K : PySem.W.Frag) (cls : CT) (n : Nat) (m : List D → Bx → R D) : Sp := fun vs H Q E => vs.length = n ∧ ∃ (bx : BQ) (F : FH) (ds : List D) (w : Bx),
  Same F H ∧ BxOk ⟨K, cls, bx⟩ F w H ∧ DRs ⟨K, cls, bx⟩ F vs ds ∧ Post ⟨K, cls, bx⟩ F H Q E (m ds w)
structure Cal (P : Program) (w : World) (K : PySem.W.Frag) (mg : Str → Option Value) (base : Heap) (cls : CT) (x : Str) (k n : Nat) (m : List D → Bx → R D) : Prop where
  ex : ∃ (f : Addr) (fd : FuncData) (ps : List Str), FnOk P w K mg base (L2N.CX P w) k f fd ps (spM K cls n m) ∧ mg x = some (.ref f) ∧ PySem.W.keepIn K (.ref f) = true ∧ Binds K fd ps []
def eCall (n : Nat) (m : List D → Bx → R D) (fs : AM) : EM := fun S w => (fs S w).bind fun ds w1 => if ds.length = n then m ds w1 else .bad
section
variable {X : Cx} {g : G} {E : EK} {e e2 a b c : Expr} {es : List Expr} {pos p p2 : Pos} {fa fb f : EM} {fs : AM} {x : Str} {k n : Nat} {m : List D → Bx → R D}
theorem call_run {E : XK} {ta : TA} (hK : g.K = X.K) (ra : ∀ σ H Q F S w, Rel g F w S σ H → PostA g F H Q E (fs S w) → ta σ H Q) : ∀ σ H Q F S w, Rel g F w S σ H → Post g F H Q E (eCall n m fs S w) → tCall (spM X.K g.cls n m) [] E ta σ H Q := by
  intro σ H Q F S w R h
  refine ra σ H _ F S w R (PostG.imp (PostG.bind h) fun ds w1 _ h1 vs H1 F1 x1 r1 => ?_)
  by_cases hl : ds.length = n
  · rw [if_pos hl] at h1
    show spM X.K g.cls n m (vs ++ []) H1 Q E
    rw [List.append_nil, ← hK]
    exact ⟨by rw [r1.length]; exact hl, g.bq, F1, ds, w1, x1.sub, x1.bx, r1, Post.of x1 h1⟩
  · rw [if_neg hl] at h1; exact h1.elim
theorem de_call {E : XK} (hK : g.K = X.K) (C : Cal X.prog X.w X.K X.mg X.base g.cls x k n m) (hr : Room k X.A) (hx : Passes (L2N.CX X.prog X.w) X E) (ha : DA X g (kE E) (e :: es) fs) (hg : Gl X x := by rfl) (hdb : (x == ("__debug__" : Str)) = false := by decide)
    (he : starEach (e :: es) X.env = (false, eval e X.env) :: starEach es X.env := by rfl) (hpl : (backTo pos (starEach es X.env)).any (·.1) = false := by rfl) : DE X g (kE E) (.Call (.Name x p) (e :: es) [] pos) (eCall n m fs) := by
  obtain ⟨f, fd, ps, F, hm, hk, hb⟩ := C.ex
  obtain ⟨ta, pa, ra⟩ := ha.run
  exact ⟨_, pe_call F hr hg hm hk hb .nil hx pa hdb he hpl, call_run hK ra⟩
theorem de_call0 {E : XK} (hK : g.K = X.K) (C : Cal X.prog X.w X.K X.mg X.base g.cls x k n m) (hr : Room k X.A) (hx : Passes (L2N.CX X.prog X.w) X E) (hg : Gl X x := by rfl) (hdb : (x == ("__debug__" : Str)) = false := by decide) : DE X g (kE E) (.Call (.Name x p) [] [] pos) (eCall n m aNil) := by
  obtain ⟨f, fd, ps, F, hm, hk, hb⟩ := C.ex
  exact ⟨_, pe_call0 F hr hg hm hk hb .nil hx hdb, call_run hK fun σ H Q F S w R h => h [] H F R.ex .nil⟩
def mNeg : D → Option D
  | .int i => some (.int (-i))
  | _ => none
def MtD (g : G) (r : V → List V → Hp → VK → Prop) (m : D → D → Option D) : Prop := ∀ (F : FH) (H : Hp) (w : Bx) (x y : V) (d e z : D) (Q : VK), Same F H → BxOk g F w H → DR g F x d → DR g F y e → m d e = some z →
  (∀ v H' F', Ext g F H F' H' w → DR g F' v z → Q v H') → r x [y] H Q
def isStr : D → Bool
  | .str _ => true
  | _ => false
/-- the receiver is looked at ahead of the argument -/
def eM1 (m : D → D → Option D) (fa fb : EM) : EM := fun S w => (fa S w).bind fun d w1 => if isStr d then (fb S w1).bind fun e w2 => R.ofO (m d e) w2 else .bad
theorem de_m1 {id : String} {name : Str} {apos : Pos} {r : V → List V → Hp → VK → Prop} {m : D → D → Option D} (slot : Slot "str" name id) (ty : typeOf (.builtin id) = pure (.type "method_descriptor")) (rule : MtR X id r) (hm : MtD g r m) (ha : DE X g E a fa) (hb : DE X g E b fb)
    (hs : starEach [b] X.env = [(false, eval b X.env)] := by rfl) (hbase : attributeBase a name X.env (eval a X.env) = eval a X.env := by rfl) (hline : (apos.endLine == pos.line) = true := by rfl) :
    DE X g E (.Call (.Attribute a name apos) [b] [] pos) (eM1 m fa fb) := by
  obtain ⟨ta, pa, ra⟩ := ha.run
  obtain ⟨tb, pb, rb⟩ := hb.run
  refine ⟨_, pe_m1 slot ty rule pa pb hs hbase hline, fun σ H Q F S w R h => ?_⟩
  refine ra σ H _ F S w R (PostG.imp (PostG.bind h) fun d w1 _ h1 v H1 F1 x1 r1 => ?_)
  by_cases hd : isStr d = true
  · rw [if_pos hd] at h1
    refine ⟨?_, rb σ H1 _ F1 S w1 (R.ext x1) (PostG.ext x1 (PostG.bind h1) fun e w2 h2 u H2 F2 x2 r2 => ?_)⟩
    · cases r1 with
      | str s => exact ⟨s, rfl⟩
      | _ => cases hd
    · obtain ⟨z, hz, q⟩ := post_ofO h2
      exact hm F2 H2 w2 v u d e z Q x2.sub x2.bx (r1.mono x2.ff) r2 hz fun v' H' F' x3 r3 => q v' H' F' ((x1.trans x2).trans x3) r3
  · rw [if_neg hd] at h1; exact h1.elim
def strsOf : List D → Option (List Str)
  | [] => some []
  | .str b :: ds => (strsOf ds).map (b :: ·)
  | _ => none
theorem strs_of {F : FH} : ∀ {vs : List V} {ds : List D} {bs : List Str}, DRs g F vs ds → strsOf ds = some bs → vs = bs.map V.str
  | _, _, _, .nil, h => by cases h; rfl
  | _, _, bs, .cons h r, e => by
    cases h with
    | str b =>
      rw [strsOf] at e
      obtain ⟨cs, e1, e2⟩ := Option.map_eq_some_iff.mp e
      subst e2
      rw [strs_of r e1]; rfl
    | _ => cases e
def joinS (sep : Str) (ys : List Str) : Option D := if (ys.map (·.length)).sum + ys.length * sep.length ≤ sizeN then some (.str (Txt.join sep ys)) else none
def mJoin : D → D → Option D
  | .str s, .lst ds => (strsOf ds).bind (joinS s)
  | .str s, .tup ds => (strsOf ds).bind (joinS s)
  | _, _ => none
theorem md_join (hK : g.K = X.K) : MtD g (fun x xs H Q => ∃ a p, ∃ ys : List Str, x = .str a ∧ xs = [.ref p] ∧ (SqL X.K H p (ys.map V.str) ∨ SqT X.K H p (ys.map V.str)) ∧
    (ys.map (·.length)).sum + ys.length * a.length ≤ 16777216 ∧ Q (.str (Txt.join a ys)) H) mJoin := by
  intro F H w x y d e z Q s b rx ry hz q
  rw [← hK]
  unfold mJoin at hz
  split at hz
  · obtain ⟨ys, e1, e2⟩ := Option.bind_eq_some_iff.mp hz
    unfold joinS at e2
    split at e2
    · rename_i hl
      cases e2; cases rx
      cases ry with
      | lst h r =>
        have e := strs_of r e1; subst e
        exact ⟨_, _, ys, rfl, rfl, .inl (.inl (.inl (s _ _ h))), hl, here s b (.str _) q⟩
    · cases e2
  · obtain ⟨ys, e1, e2⟩ := Option.bind_eq_some_iff.mp hz
    unfold joinS at e2
    split at e2
    · rename_i hl
      cases e2; cases rx
      cases ry with
      | tup h r =>
        have e := strs_of r e1; subst e
        exact ⟨_, _, ys, rfl, rfl, .inr (same_T s h), hl, here s b (.str _) q⟩
    · cases e2
  · cases hz
theorem de_join {apos : Pos} (hK : g.K = X.K) (ha : DE X g E a fa) (hb : DE X g E b fb) (hs : starEach [b] X.env = [(false, eval b X.env)] := by rfl) (hbase : attributeBase a "join" X.env (eval a X.env) = eval a X.env := by rfl) (hline : (apos.endLine == pos.line) = true := by rfl) :
    DE X g E (.Call (.Attribute a "join" apos) [b] [] pos) (eM1 mJoin fa fb) := de_m1 F.slot_str_join F.type_str_join mt_join (md_join hK) ha hb hs hbase hline
theorem drs_strs {F : FH} : ∀ ys : List Str, DRs g F (ys.map V.str) (ys.map D.str)
  | [] => .nil
  | y :: ys => .cons (.str y) (drs_strs ys)
structure Yld (g : G) (F : FH) (J : It) (ds : List D) : Prop where
  go : ∀ (i : Nat) (d : D) (F2 : FH) (H2 : Hp), FSame F F2 → Same F2 H2 → ds[i]? = some d → J.go i H2 ∧ ∀ x H3, J.yld i H2 x H3 → (H3 = H2 ∧ DR g F2 x d) ∨ ∃ T xs es, x = .ref T ∧ H2 T = none ∧ H3 = upd H2 T (.tup xs) ∧ DRs g F2 xs es ∧ d = .tup es
  stop : ∀ (F2 : FH) (H2 : Hp), FSame F F2 → Same F2 H2 → J.stop ds.length H2
structure DI (X : Cx) (g : G) (E : EK) (tg iter : Expr) (f : AM) : Prop where
  run : ∃ wi, PI X tg iter wi ∧ ∀ σ H (Rq : It → Hp → Prop) F S w, Rel g F w S σ H → PostG g F H (E σ) (fun ds w' => ∀ J H' F', Ext g F H F' H' w' → Yld g F' J ds → Rq J H') (f S w) → wi σ H Rq
variable {tg : Expr}
theorem yld_list {F : FH} {a : Addr} {xs : List V} {ds : List D} (h : F a = some (.lst xs)) (r : DRs g F xs ds) : Yld g F (Itl g.K a) ds := by
  refine ⟨fun i d F2 H2 s1 s2 hd => ?_, fun F2 H2 s1 s2 => ⟨xs, .inl (.inl (s2 _ _ (s1.fz _ _ h))), by rw [r.length]; exact Nat.le_refl _⟩⟩
  obtain ⟨v, hv, rv⟩ := r.get hd
  have hs : SqL g.K H2 a xs := .inl (.inl (s2 _ _ (s1.fz _ _ h)))
  refine ⟨⟨xs, v, hs, hv⟩, fun x H3 hy => ?_⟩
  obtain ⟨e1, e2⟩ := hy
  have e3 := e2 xs hs
  rw [hv] at e3; cases e3
  exact .inl ⟨e1, rv.mono s1⟩
theorem yld_tup {F : FH} {a : Addr} {xs : List V} {ds : List D} (h : SqT g.K F a xs) (r : DRs g F xs ds) : Yld g F (Itt g.K a) ds := by
  refine ⟨fun i d F2 H2 s1 s2 hd => ?_, fun F2 H2 s1 s2 => ⟨xs, same_T s2 (same_T s1.fz h), by rw [r.length]; exact Nat.le_refl _⟩⟩
  obtain ⟨v, hv, rv⟩ := r.get hd
  have hs : SqT g.K H2 a xs := same_T s2 (same_T s1.fz h)
  refine ⟨⟨xs, v, hs, hv⟩, fun x H3 hy => ?_⟩
  obtain ⟨e1, e2⟩ := hy
  have e3 := e2 xs hs
  rw [hv] at e3; cases e3
  exact .inl ⟨e1, rv.mono s1⟩
def signs (z : Str) : List D := z.cps.toList.map fun c => .str ⟨#[c]⟩
theorem yld_str {F : FH} (z : Str) : Yld g F (Its z) (signs z) := by
  refine ⟨fun i d F2 H2 s1 s2 hd => ?_, fun F2 H2 s1 s2 => ?_⟩
  · unfold signs at hd
    rw [List.getElem?_map] at hd
    obtain ⟨c, hc, rfl⟩ := Option.map_eq_some_iff.mp hd
    have hc' : z.cps[i]? = some c := by simpa using hc
    refine ⟨(Array.getElem?_eq_some_iff.mp hc').1, fun x H3 hy => ?_⟩
    obtain ⟨e1, c2, e2, e3⟩ := hy
    rw [hc'] at e2; cases e2
    subst e3
    exact .inl ⟨e1, .str _⟩
  · show z.cps.size ≤ (signs z).length
    simp [signs]
/-- the items of a list, a tuple, a text -/
def itemsOf : D → Option (List D)
  | .lst ds => some ds
  | .tup ds => some ds
  | .str z => some (signs z)
  | _ => none
def iAny (f : EM) : AM := fun S w => (f S w).bind fun d w1 => R.ofO (itemsOf d) w1
theorem di_any (hK : g.K = X.K) (ha : DE X g E a fa) : DI X g E tg a (iAny fa) := by
  obtain ⟨ta, pa, ra⟩ := ha.run
  refine ⟨fun σ H Rq => ta σ H fun x H1 => (∃ a, x = .ref a ∧ (∃ xs, SqL X.K H1 a xs) ∧ Rq (Itl X.K a) H1) ∨ (∃ a, x = .ref a ∧ (∃ xs, SqT X.K H1 a xs) ∧ Rq (Itt X.K a) H1) ∨ (∃ z, x = .str z ∧ Rq (Its z) H1), ⟨fun pins s σ H Rq I h => ?_⟩, fun σ H Rq F S w R h => ?_⟩
  · refine thn (pa.run pins s σ H _ I h) fun v s1 ⟨x, H1, I1, r1, q1⟩ => ?_
    rcases q1 with ⟨a, e, ⟨xs, hq⟩, q⟩ | ⟨a, e, ⟨xs, hq⟩, q⟩ | ⟨z, e, q⟩
    · subst e; cases r1
      obtain ⟨_, _, p, _⟩ := I1.list hq
      exact wpAny_pyIter_list p.isList (pi_one (tk := s1.toks) I1 _ (turn_list a _) ⟨_, Heap.get?_push_size _ rfl, rfl, rfl⟩ q)
    · subst e; cases r1
      obtain ⟨_, _, p, _⟩ := I1.tuple hq
      exact wpAny_pyIter_tuple p (pi_one (tk := s1.toks) I1 _ (turn_tuple a _) ⟨_, Heap.get?_push_size _ rfl, rfl, rfl⟩ q)
    · subst e
      obtain ⟨t, rfl⟩ := r1
      cases ha : z.cps.all (· < 128)
      · exact wpAny_pyIter_wide ha (pi_one (tk := s1.toks) I1 _ (turn_str _ z t "str_iterator" (.inr rfl)) ⟨_, Heap.get?_push_size _ rfl, rfl, rfl⟩ q)
      · exact wpAny_pyIter_ascii ha (pi_one (tk := s1.toks) I1 _ (turn_str _ z t "str_ascii_iterator" (.inl rfl)) ⟨_, Heap.get?_push_size _ rfl, rfl, rfl⟩ q)
  · refine ra σ H _ F S w R (PostG.imp (PostG.bind h) fun d w1 _ h1 v H1 F1 x1 r1 => ?_)
    obtain ⟨ds, hz, q⟩ := post_ofO' h1
    rw [← hK]
    cases r1 with
    | lst h r => cases hz; exact .inl ⟨_, rfl, ⟨_, .inl (.inl (x1.sub _ _ h))⟩, q _ H1 F1 x1 (yld_list h r)⟩
    | tup h r => cases hz; exact .inr (.inl ⟨_, rfl, ⟨_, same_T x1.sub h⟩, q _ H1 F1 x1 (yld_tup h r)⟩)
    | str z => cases hz; exact .inr (.inr ⟨_, rfl, q _ H1 F1 x1 (yld_str z)⟩)
    | _ => cases hz
/-- range -/
def upFrom (lo : Int) (n : Nat) : List D := (List.range n).map fun (i : Nat) => D.int (lo + (i : Int))
theorem yld_range {F : FH} (lo : Int) (n : Nat) : Yld g F (Itr lo n) (upFrom lo n) := by
  refine ⟨fun i d F2 H2 s1 s2 hd => ?_, fun F2 H2 s1 s2 => ?_⟩
  · unfold upFrom at hd
    rw [List.getElem?_map] at hd
    obtain ⟨j, hj, rfl⟩ := Option.map_eq_some_iff.mp hd
    obtain ⟨h1, h2⟩ := List.getElem?_eq_some_iff.mp hj
    have : i < n := by simpa using h1
    have e : j = i := by rw [List.getElem_range] at h2; exact h2.symm
    subst e
    refine ⟨this, fun x H3 hy => ?_⟩
    obtain ⟨e1, e2⟩ := hy
    subst e2
    exact .inl ⟨e1, .int _⟩
  · show n ≤ (upFrom lo n).length
    simp [upFrom]
def rngOf : List D → Option (List D)
  | [.int j] => if -(2 ^ 62) ≤ j ∧ j < 2 ^ 62 then some (upFrom 0 j.toNat) else none
  | _ => none
def iBy (m : List D → Option (List D)) (fs : AM) : AM := fun S w => (fs S w).bind fun ds w1 => R.ofO (m ds) w1
theorem di_range (hm : X.mg "range" = none) (ha : DA X g E [a] fs) (hg : Gl X "range" := by rfl) (hs : starEach [a] X.env = [(false, eval a X.env)] := by rfl) : DI X g E tg (.Call (.Name "range" p) [a] [] pos) (iBy rngOf fs) := by
  obtain ⟨ta, pa, ra⟩ := ha.run
  refine ⟨_, pi_range1 hg hm pa hs, fun σ H Rq F S w R h => ?_⟩
  refine ra σ H _ F S w R (PostG.imp (PostG.bind h) fun ds w1 _ h1 vs H1 F1 x1 r1 => ?_)
  obtain ⟨zs, hz, q⟩ := post_ofO' h1
  unfold rngOf at hz
  split at hz
  · split at hz
    · rename_i hl
      cases hz
      obtain ⟨v, rfl, h⟩ := drs1 r1
      cases h
      exact ⟨_, rfl, hl.1, hl.2, q _ H1 F1 x1 (yld_range 0 _)⟩
    · cases hz
  · cases hz
/-- zip of two lists, of two tuples -/
def zipD (ds es : List D) : List D := (ds.zip es).map fun p => .tup [p.1, p.2]
def zipOf : List D → Option (List D)
  | [.lst ds, .lst es] => some (zipD ds es)
  | [.tup ds, .tup es] => some (zipD ds es)
  | _ => none
theorem zip_get {ds es : List D} {i : Nat} {z : D} (h : (zipD ds es)[i]? = some z) : ∃ d e, ds[i]? = some d ∧ es[i]? = some e ∧ z = .tup [d, e] := by
  unfold zipD at h
  rw [List.getElem?_map] at h
  obtain ⟨q, hq, rfl⟩ := Option.map_eq_some_iff.mp h
  obtain ⟨d, e⟩ := q
  have := List.getElem?_zip_eq_some.mp hq
  exact ⟨d, e, this.1, this.2, rfl⟩
theorem yld_zip {F : FH} {a b : Addr} {xs ys : List V} {ds es : List D} (h : F a = some (.lst xs)) (r : DRs g F xs ds) (h2 : F b = some (.lst ys)) (r2 : DRs g F ys es) : Yld g F (Itz g.K a b) (zipD ds es) := by
  refine ⟨fun i z F2 H2 s1 s2 hd => ?_, fun F2 H2 s1 s2 => ⟨xs, ys, .inl (.inl (s2 _ _ (s1.fz _ _ h))), .inl (.inl (s2 _ _ (s1.fz _ _ h2))), ?_⟩⟩
  · obtain ⟨d, e, hd', he, rfl⟩ := zip_get hd
    obtain ⟨v, hv, rv⟩ := r.get hd'
    obtain ⟨u, hu, ru⟩ := r2.get he
    have hs : SqL g.K H2 a xs := .inl (.inl (s2 _ _ (s1.fz _ _ h)))
    have hs2 : SqL g.K H2 b ys := .inl (.inl (s2 _ _ (s1.fz _ _ h2)))
    refine ⟨⟨xs, ys, v, u, hs, hs2, hv, hu⟩, fun x H3 hy => ?_⟩
    obtain ⟨T, x1, x2, e1, n, e2, f1, f2⟩ := hy
    have e3 := f1 xs hs; rw [hv] at e3; cases e3
    have e4 := f2 ys hs2; rw [hu] at e4; cases e4
    exact .inr ⟨T, _, _, e1, n, e2, .cons (rv.mono s1) (.cons (ru.mono s1) .nil), rfl⟩
  · rw [r.length, r2.length]
    simp only [zipD, List.length_map, List.length_zip]
    omega
theorem yld_zipT {F : FH} {a b : Addr} {xs ys : List V} {ds es : List D} (h : SqT g.K F a xs) (r : DRs g F xs ds) (h2 : SqT g.K F b ys) (r2 : DRs g F ys es) : Yld g F (RZ.ItzT g.K a b) (zipD ds es) := by
  refine ⟨fun i z F2 H2 s1 s2 hd => ?_, fun F2 H2 s1 s2 => ⟨xs, ys, same_T s2 (same_T s1.fz h), same_T s2 (same_T s1.fz h2), ?_⟩⟩
  · obtain ⟨d, e, hd', he, rfl⟩ := zip_get hd
    obtain ⟨v, hv, rv⟩ := r.get hd'
    obtain ⟨u, hu, ru⟩ := r2.get he
    have hs : SqT g.K H2 a xs := same_T s2 (same_T s1.fz h)
    have hs2 : SqT g.K H2 b ys := same_T s2 (same_T s1.fz h2)
    refine ⟨⟨xs, ys, v, u, hs, hs2, hv, hu⟩, fun x H3 hy => ?_⟩
    obtain ⟨T, x1, x2, e1, n, e2, f1, f2⟩ := hy
    have e3 := f1 xs hs; rw [hv] at e3; cases e3
    have e4 := f2 ys hs2; rw [hu] at e4; cases e4
    exact .inr ⟨T, _, _, e1, n, e2, .cons (rv.mono s1) (.cons (ru.mono s1) .nil), rfl⟩
  · rw [r.length, r2.length]
    simp only [zipD, List.length_map, List.length_zip]
    omega
theorem di_zip {elts : List Expr} {kk : Nat} {tpos : Pos} (hK : g.K = X.K) (hm : X.mg "zip" = none) (ha : DA X g E [a, b] fs) (hg : Gl X "zip" := by rfl)
    (hs : starEach [a, b] X.env = (false, eval a X.env) :: starEach [b] X.env := by rfl) (hpl : (backTo pos (starEach [b] X.env)).any (·.1) = false := by rfl) : DI X g E (.Tuple elts kk tpos) (.Call (.Name "zip" p) [a, b] [] pos) (iBy zipOf fs) := by
  obtain ⟨ta, pa, ra⟩ := ha.run
  refine ⟨_, RZ.pi_zipA hg hm pa hs hpl, fun σ H Rq F S w R h => ?_⟩
  refine ra σ H _ F S w R (PostG.imp (PostG.bind h) fun ds w1 _ h1 vs H1 F1 x1 r1 => ?_)
  obtain ⟨zs, hz, q⟩ := post_ofO' h1
  rw [← hK]
  unfold zipOf at hz
  split at hz
  · cases hz
    obtain ⟨v, u, rfl, h, h'⟩ := drs2 r1
    cases h with
    | lst h r =>
      cases h' with
      | lst h2 r2 => exact ⟨_, _, _, _, rfl, .inl ⟨.inl (.inl (x1.sub _ _ h)), .inl (.inl (x1.sub _ _ h2)), q _ H1 F1 x1 (yld_zip h r h2 r2)⟩⟩
  · cases hz
    obtain ⟨v, u, rfl, h, h'⟩ := drs2 r1
    cases h with
    | tup h r =>
      cases h' with
      | tup h2 r2 => exact ⟨_, _, _, _, rfl, .inr ⟨same_T x1.sub h, same_T x1.sub h2, q _ H1 F1 x1 (yld_zipT h r h2 r2)⟩⟩
  · cases hz
/-- enumerate of a list -/
def numbered (ds : List D) : List D := (List.range ds.length).zip ds |>.map fun p => .tup [.int (p.1 : Int), p.2]
theorem num_get {ds : List D} {i : Nat} {z : D} (h : (numbered ds)[i]? = some z) : ∃ d, ds[i]? = some d ∧ z = .tup [.int (i : Int), d] := by
  unfold numbered at h
  rw [List.getElem?_map] at h
  obtain ⟨q, hq, rfl⟩ := Option.map_eq_some_iff.mp h
  obtain ⟨j, e⟩ := q
  have := List.getElem?_zip_eq_some.mp hq
  obtain ⟨h1, h2⟩ := List.getElem?_eq_some_iff.mp this.1
  rw [List.getElem_range] at h2
  have h2 : i = j := h2
  subst h2
  exact ⟨e, this.2, rfl⟩
theorem num_len (ds : List D) : (numbered ds).length = ds.length := by simp [numbered]
theorem yld_enum {F : FH} {a : Addr} {xs : List V} {ds : List D} (h : F a = some (.lst xs)) (r : DRs g F xs ds) : Yld g F (Ite g.K a) (numbered ds) := by
  refine ⟨fun i z F2 H2 s1 s2 hd => ?_, fun F2 H2 s1 s2 => ⟨xs, .inl (.inl (s2 _ _ (s1.fz _ _ h))), by rw [r.length, num_len]; exact Nat.le_refl _⟩⟩
  obtain ⟨d, hd', rfl⟩ := num_get hd
  obtain ⟨v, hv, rv⟩ := r.get hd'
  have hs : SqL g.K H2 a xs := .inl (.inl (s2 _ _ (s1.fz _ _ h)))
  refine ⟨⟨xs, v, hs, hv⟩, fun x H3 hy => ?_⟩
  obtain ⟨T, x1, e1, n, e2, f1⟩ := hy
  have e3 := f1 xs hs; rw [hv] at e3; cases e3
  exact .inr ⟨T, _, _, e1, n, e2, .cons (.int _) (.cons (rv.mono s1) .nil), rfl⟩
end
end Y
namespace Y
open PySem PySem.Spec PyProof.Rows L2
section
variable {X : Cx} {g : G} {E : EK} {e a b c : Expr} {es : List Expr} {pos p p2 : Pos} {fa fb f : EM} {fs : AM}
def tSem (g : G) (E : EK) (f : EM) : TE := fun σ H Q => ∃ F S w, Rel g F w S σ H ∧ Post g F H Q (E σ) (f S w)
def tSemT (g : G) (E : EK) (f : TM) : TT := fun σ H Q => ∃ F S w, Rel g F w S σ H ∧ PostT g F H Q (E σ) (f S w)
theorem DE.pe (h : DE X g E e f) : PE X e (tSem g E f) := by
  obtain ⟨t, p, r⟩ := h.run
  exact ⟨fun pins s σ H Q I ⟨F, S, w, R, q⟩ => p.run pins s σ H Q I (r σ H Q F S w R q)⟩
theorem DT.pt {f : TM} (h : DT X g E e f) : PT X e (tSemT g E f) := by
  obtain ⟨t, p, r⟩ := h.run
  exact ⟨fun pins s σ H Q I ⟨F, S, w, R, q⟩ => p.run pins s σ H Q I (r σ H Q F S w R q)⟩

theorem Rel.set {F : FH} {H : Hp} {w : Bx} {S : SL} {σ : L2.St} {v : V} {d : D} (R : Rel g F w S σ H) (i : Nat) (r : DR g F v d) : Rel g F w (S.set i (some (.dat d))) (σ.set i (some v)) H := by
  refine ⟨R.sub, R.bx, by rw [List.length_set, List.length_set]; exact R.len, fun j s hs => ?_, fun j k ds ds2 u h1 h2 h3 h4 => ?_⟩
  · rw [List.getElem?_set] at hs ⊢
    by_cases e : i = j
    · rw [if_pos e] at hs ⊢
      by_cases hl : j < S.length
      · rw [if_pos (e ▸ hl)] at hs; cases hs
        rw [if_pos (by rw [e, ← R.len]; exact hl)]
        exact ⟨v, rfl, r⟩
      · rw [if_neg (e ▸ hl)] at hs; cases hs
    · rw [if_neg e] at hs ⊢; exact R.sl j s hs
  · rw [List.getElem?_set] at h1 h2 h3 h4
    by_cases e : i = j
    · rw [if_pos e] at h1; split at h1 <;> cases h1
    · by_cases e2 : i = k
      · rw [if_pos e2] at h2; split at h2 <;> cases h2
      · rw [if_neg e] at h1 h3; rw [if_neg e2] at h2 h4; exact R.inj j k ds ds2 u h1 h2 h3 h4
def wipeS (S : SL) : List Nat → SL
  | [] => S
  | v :: vs => (wipeS S vs).set v none
theorem wipe_get (σ : L2.St) (j : Nat) : ∀ vs : List Nat, (wipe σ vs)[j]? = if j ∈ vs then (if j < σ.length then some none else none) else σ[j]?
  | [] => by simp [wipe]
  | v :: vs => by
    unfold wipe
    rw [List.getElem?_set, wipe_length, wipe_get σ j vs]
    by_cases e : v = j
    · subst e; simp
    · have : (j ∈ v :: vs) ↔ j ∈ vs := by simp [Ne.symm e]
      rw [if_neg e]
      by_cases h : j ∈ vs
      · rw [if_pos h, if_pos (this.mpr h)]
      · rw [if_neg h, if_neg (fun z => h (this.mp z))]
theorem wipeS_length (S : SL) : ∀ vs : List Nat, (wipeS S vs).length = S.length
  | [] => rfl
  | v :: vs => by unfold wipeS; rw [List.length_set, wipeS_length S vs]
theorem wipeS_get (σ : SL) (j : Nat) : ∀ vs : List Nat, (wipeS σ vs)[j]? = if j ∈ vs then (if j < σ.length then some none else none) else σ[j]?
  | [] => by simp [wipeS]
  | v :: vs => by
    unfold wipeS
    rw [List.getElem?_set, wipeS_length, wipeS_get σ j vs]
    by_cases e : v = j
    · subst e; simp
    · have : (j ∈ v :: vs) ↔ j ∈ vs := by simp [Ne.symm e]
      rw [if_neg e]
      by_cases h : j ∈ vs
      · rw [if_pos h, if_pos (this.mpr h)]
      · rw [if_neg h, if_neg (fun z => h (this.mp z))]
theorem wipe_set {σ : L2.St} {i : Nat} {x : Option V} {vs : List Nat} (h : i ∈ vs) : wipe (σ.set i x) vs = wipe σ vs := by
  apply List.ext_getElem?
  intro j
  rw [wipe_get, wipe_get, List.length_set, List.getElem?_set]
  by_cases hj : j ∈ vs
  · rw [if_pos hj, if_pos hj]
  · rw [if_neg hj, if_neg hj, if_neg (fun (e : i = j) => hj (e ▸ h))]
theorem Rel.wipe {F : FH} {H : Hp} {w : Bx} {S : SL} {σ : L2.St} (R : Rel g F w S σ H) (vs : List Nat) : Rel g F w (wipeS S vs) (L2.wipe σ vs) H := by
  refine ⟨R.sub, R.bx, by rw [wipeS_length, wipe_length]; exact R.len, fun j s hs => ?_, fun j k ds ds2 u h1 h2 h3 h4 => ?_⟩
  · rw [wipeS_get] at hs
    rw [wipe_get]
    by_cases hj : j ∈ vs
    · rw [if_pos hj] at hs; split at hs <;> cases hs
    · rw [if_neg hj] at hs ⊢; exact R.sl j s hs
  · rw [wipeS_get] at h1 h2
    rw [wipe_get] at h3 h4
    by_cases hj : j ∈ vs
    · rw [if_pos hj] at h1; split at h1 <;> cases h1
    · by_cases hk : k ∈ vs
      · rw [if_pos hk] at h2; split at h2 <;> cases h2
      · rw [if_neg hj] at h1 h3; rw [if_neg hk] at h2 h4; exact R.inj j k ds ds2 u h1 h2 h3 h4

abbrev GM := D → SL → Option SL
abbrev GMs := List D → SL → Option SL
/-- is: the slots that are set -/
structure DG (X : Cx) (g : G) (tg : Expr) (ns : List Nat) (m : GM) : Prop where
  run : ∃ t, PG X tg t ∧ ∀ v σ H Q F S w d S', Rel g F w S σ H → DR g F v d → m d S = some S' → (∀ σ', Rel g F w S' σ' H → (∀ vs, (∀ i ∈ ns, i ∈ vs) → L2.wipe σ' vs = L2.wipe σ vs) → Q σ' H) → t v σ H Q
  own : ∀ d S S' (i : Nat) ds, m d S = some S' → S'[i]? = some (some (.own ds)) → S[i]? = some (some (.own ds)) ∧ i ∉ ns
structure DGs (X : Cx) (g : G) (tgs : List Expr) (ns : List Nat) (m : GMs) : Prop where
  run : ∃ t, PGs X tgs t ∧ ∀ vs σ H Q F S w ds S', Rel g F w S σ H → DRs g F vs ds → m ds S = some S' → (∀ σ', Rel g F w S' σ' H → (∀ us, (∀ i ∈ ns, i ∈ us) → L2.wipe σ' us = L2.wipe σ us) → Q σ' H) → t vs σ H Q
  own : ∀ es S S' (i : Nat) ds, m es S = some S' → S'[i]? = some (some (.own ds)) → S[i]? = some (some (.own ds)) ∧ i ∉ ns
def gSet (i : Nat) : GM := fun d S => some (S.set i (some (.dat d)))
def gsNil : GMs := fun ds S => match ds with
  | [] => some S
  | _ => none
def gsCons (m : GM) (k : GMs) : GMs := fun ds S => match ds with
  | d :: r => (m d S).bind (k r)
  | [] => none
def gTupM (k : GMs) : GM := fun d S => match d with
  | .tup ds => k ds S
  | _ => none
theorem dg_name (i : Nat) {x : Str} (hN : X.N.Nodup) (hi : X.N[i]? = some x := by rfl) (hx : Loc X.env.scope x := by first | exact Or.inl rfl | exact Or.inr rfl) (hf : X.fn x = true ∨ X.env.scope.names.lookup x = some .local := by first | exact .inl rfl | exact .inr rfl) : DG X g (.Name x pos) [i] (gSet i) := by
  refine ⟨⟨_, pg_name hN hi hx hf, fun v σ H Q F S w d S' R r hm q => ?_⟩, fun d S S' j ds hm hj => ?_⟩
  · cases hm
    exact q _ (R.set i r) fun vs hv => wipe_set (hv i (List.mem_singleton.mpr rfl))
  · cases hm
    rw [List.getElem?_set] at hj
    by_cases e : i = j
    · rw [if_pos e] at hj; split at hj <;> cases hj
    · rw [if_neg e] at hj; exact ⟨hj, fun z => e (List.mem_singleton.mp z).symm⟩
theorem dgs_nil : DGs X g [] [] gsNil := by
  refine ⟨⟨_, pgs_nil, fun vs σ H Q F S w ds S' R r hm q => ?_⟩, fun es S S' i ds hm hj => ?_⟩
  · cases r with
    | nil => cases hm; exact ⟨rfl, q σ R fun _ _ => rfl⟩
    | cons _ _ => cases hm
  · cases es with
    | nil => cases hm; exact ⟨hj, fun z => nomatch z⟩
    | cons _ _ => cases hm
theorem dgs_cons {tgs : List Expr} {ns ns2 : List Nat} {m : GM} {k : GMs} (h1 : DG X g e ns m) (h2 : DGs X g tgs ns2 k) (hq : ∀ (t : TG) (u : TGs), PG X e t → PGs X tgs u → PGs X (e :: tgs) (gCons t u) := by exact fun _ _ a b => pgs_cons a b) : DGs X g (e :: tgs) (ns ++ ns2) (gsCons m k) := by
  obtain ⟨t, p, r⟩ := h1.run
  obtain ⟨t2, p2, r2⟩ := h2.run
  refine ⟨⟨_, hq t t2 p p2, fun vs σ H Q F S w ds S' R rr hm q => ?_⟩, fun es S S' i ds hm hj => ?_⟩
  · cases rr with
    | nil => cases hm
    | cons rd rs =>
      obtain ⟨S1, e1, e2⟩ := Option.bind_eq_some_iff.mp hm
      refine ⟨_, _, rfl, r _ σ H _ F S w _ S1 R rd e1 fun σ1 R1 w1 => ?_⟩
      refine r2 _ σ1 H _ F S1 w _ S' R1 rs e2 fun σ2 R2 w2 => q σ2 R2 fun us hu => ?_
      rw [w2 us fun i hi => hu i (List.mem_append_right _ hi), w1 us fun i hi => hu i (List.mem_append_left _ hi)]
  · cases es with
    | nil => cases hm
    | cons d rs =>
      obtain ⟨S1, e1, e2⟩ := Option.bind_eq_some_iff.mp hm
      obtain ⟨a1, a2⟩ := h2.own _ _ _ i ds e2 hj
      obtain ⟨b1, b2⟩ := h1.own _ _ _ i ds e1 a1
      exact ⟨b1, fun z => (List.mem_append.mp z).elim b2 a2⟩
theorem dg_tup {tgs : List Expr} {kk : Nat} {ns : List Nat} {k : GMs} {n : Nat} (hK : g.K = X.K) (h : DGs X g tgs ns k) (hq : ∀ u : TGs, PGs X tgs u → PG X (.Tuple tgs kk pos) (gTup X.K n u)) (hn : ∀ ds S S', k ds S = some S' → ds.length = n) : DG X g (.Tuple tgs kk pos) ns (gTupM k) := by
  obtain ⟨t, p, r⟩ := h.run
  refine ⟨⟨_, hq t p, fun v σ H Q F S w d S' R rd hm q => ?_⟩, fun d S S' i ds hm hj => ?_⟩
  · rw [← hK]
    cases rd with
    | tup hs rs => exact ⟨_, _, rfl, same_T R.sub hs, by rw [rs.length]; exact hn _ _ _ hm, r _ σ H _ F S w _ S' R rs hm q⟩
    | _ => cases hm
  · cases d with
    | tup es => exact h.own es S S' i ds hm hj
    | _ => cases hm
theorem gs_len0 : ∀ ds S S', gsNil ds S = some S' → ds.length = 0 := fun ds S S' h => by
  cases ds with
  | nil => rfl
  | cons _ _ => cases h
theorem gs_len {m : GM} {k : GMs} {n : Nat} (h : ∀ ds S S', k ds S = some S' → ds.length = n) : ∀ ds S S', gsCons m k ds S = some S' → ds.length = n + 1 := fun ds S S' hm => by
  cases ds with
  | nil => cases hm
  | cons d r =>
    obtain ⟨S1, _, e2⟩ := Option.bind_eq_some_iff.mp hm
    rw [List.length_cons, h _ _ _ e2]
def tSemG (g : G) (ns : List Nat) (m : GM) : TG := fun v σ H Q => ∃ F S w d S', Rel g F w S σ H ∧ DR g F v d ∧ m d S = some S' ∧ ∀ σ', Rel g F w S' σ' H → (∀ vs, (∀ i ∈ ns, i ∈ vs) → L2.wipe σ' vs = L2.wipe σ vs) → Q σ' H
theorem DG.pg {tg : Expr} {ns : List Nat} {m : GM} (h : DG X g tg ns m) : PG X tg (tSemG g ns m) := by
  obtain ⟨t, p, r⟩ := h.run
  refine ⟨fun pins s σ H v u Q I rv ⟨F, S, w, d, S', R, rd, hm, q⟩ => ?_⟩
  exact p.run pins s σ H v u Q I rv (r v σ H Q F S w d S' R rd hm q)

def R.nx {α : Type} : R α → R α
  | .ok a w => .ok a w
  | _ => .bad
def lcLoop (gm : GM) (tm : TM) (em : EM) (S0 : SL) : List D → Bx → R (List D)
  | [], w => .ok [] w
  | d :: ds, w => match gm d S0 with
    | none => .bad
    | some S1 => (tm S1 w).nx.bind fun b w1 => if b then (em S1 w1).nx.bind fun y w2 => (lcLoop gm tm em S0 ds w2).bind fun ys w3 => .ok (y :: ys) w3 else lcLoop gm tm em S0 ds w1
def oLc (fi : AM) (gm : GM) (tm : TM) (em : EM) (vs : List Nat) : AM := fun S w => (fi S w).bind fun ds w1 => if ds.length ≤ sizeN then lcLoop gm tm em (wipeS S vs) ds w1 else .bad
def tYesM : TM := fun _ w => .ok true w
structure DTs (X : Cx) (g : G) (E : EK) (ifs : List Expr) (f : TM) : Prop where
  run : ∃ t, PTs X ifs t ∧ ∀ σ H Q F S w, Rel g F w S σ H → PostT g F H Q (E σ) (f S w) → t σ H Q
theorem dts_nil : DTs X g E [] tYesM := ⟨_, pts_nil, fun σ H Q F S w R h => h H F R.ex⟩
theorem DTs.pts {ifs : List Expr} {f : TM} (h : DTs X g E ifs f) : PTs X ifs (tSemT g E f) := by
  obtain ⟨t, p, r⟩ := h.run
  exact ⟨fun pins s σ H Q I ⟨F, S, w, R, q⟩ => p.run pins s σ H Q I (r σ H Q F S w R q)⟩
/-- what may be written anew -/
def Mut (u : HO) : Prop := (∃ vs, u = .lst vs) ∨ (∃ vs, u = .dK vs) ∨ ∃ C d vs, u = .ins C d vs
theorem Mut.ne {u : HO} (m : Mut u) (h1 : ∀ vs, u ≠ .lst vs) (h2 : ∀ vs, u ≠ .dK vs) (h3 : ∀ C d vs, u ≠ .ins C d vs) : False := by
  rcases m with ⟨vs, z⟩ | ⟨vs, z⟩ | ⟨C, d, vs, z⟩
  · exact h1 vs z
  · exact h2 vs z
  · exact h3 C d vs z
theorem Ext.mut {F F' : FH} {H H' : Hp} {w : Bx} {q : Addr} {o u0 : HO} (x : Ext g F H F' H' w) (n : H q = none) (n2 : F'.free q) (nb : q ≠ g.bx) (hq : H' q = some u0) (hm : Mut u0) : Ext g F H F' (upd H' q o) w := by
  refine ⟨x.ff, fun a u na nc nt h => ?_, fun a h => x.dom a (upd_dom h), x.new, x.nad, fun a u h => ?_, x.bx.heap (by rw [upd_ne nb.symm]) (fun i a h => by rw [upd_ne (show a ≠ q from fun z => n2.2 i (z ▸ h))]) (fun a u h1 h2 h3 h => ?_), fun a od u h => by rw [upd_ne (ne_of_none h n)]; exact x.frz a od u h⟩
  · rw [upd_ne (ne_of_none h n)]; exact x.hh a u na nc nt h
  · rw [upd_ne (ne_of_none h n2.1)]; exact x.sub a u h
  · by_cases e : a = q
    · rw [e, hq] at h; cases h; exact (hm.ne h1 h2 h3).elim
    · rw [upd_ne e]; exact h
theorem nx_post {α : Type} {F : FH} {H : Hp} {Q Q2 : α → Bx → Prop} {r : R α} {E1 E0 : XK} (h : PostG g F H E1 Q r.nx) (i : ∀ a w, Q a w → Q2 a w) : PostG g F H E0 Q2 r := by
  cases r with
  | ok a w => exact i a w h
  | err c fs w => exact h.elim
  | bad => exact h
theorem not_box {F : FH} {H : Hp} {w : Bx} {q : Addr} (b : BxOk g F w H) (n : H q = none) : q ≠ g.bx := fun e => by
  obtain ⟨c, h, _⟩ := b.at_
  rw [e, h] at n; cases n
theorem lc_run {wi : TI} {fi : AM} {gm : GM} {tm : TM} {em : EM} {ns vs : List Nat} (hn : ∀ i ∈ ns, i ∈ vs)
    (ri : ∀ σ H (Rq : It → Hp → Prop) F S w, Rel g F w S σ H → PostG g F H (E σ) (fun ds w' => ∀ J H' F', Ext g F H F' H' w' → Yld g F' J ds → Rq J H') (fi S w) → wi σ H Rq) :
    ∀ σ H Q F S w, Rel g F w S σ H → PostO g F H Q (E σ) (oLc fi gm tm em vs S w) → tLc wi (tSemG g ns gm) (tSemT g (kE E0) tm) (tSem g (kE E0) em) vs σ H Q := by
  intro σ H Q F S w R h
  refine ri σ H _ F S w R (PostG.imp (PostG.bind h) fun ds w1 _ h1 J H1 F1 x1 yl D nD => ?_)
  by_cases hl : ds.length ≤ sizeN
  · rw [if_pos hl] at h1
    have nDb : D ≠ g.bx := not_box x1.bx nD
    refine ⟨fun i m H2 => ∃ F2 w2 acc ys, Ext g F1 H1 F2 H2 w2 ∧ F2.free D ∧ H2 D = some (.lst acc) ∧ DRs g F2 acc ys ∧ ys.length ≤ i ∧ i + m = ds.length ∧
      PostG g F H (E σ) (fun zs w' => ∀ p vs H' F', Ext g F H F' H' w' → H p = none → F'.free p → H' p = some (.lst vs) → DRs g F' vs (ys ++ zs) → Q (.ref p) H') (lcLoop gm tm em (wipeS S vs) (ds.drop i) w2),
      ⟨ds.length, F1, w1, [], [], Ext.own x1.sub x1.bx nD, free_of x1.sub x1.bx nD, upd_same, .nil, Nat.zero_le _, by omega, h1⟩, fun i m H2 hW => ?_⟩
    obtain ⟨F2, w2, acc, ys, x2, nF2, hD, rys, hy, him, hp⟩ := hW
    cases hd : ds[i]? with
    | none =>
      have hle : ds.length ≤ i := List.getElem?_eq_none_iff.mp hd
      have hie : i = ds.length := by omega
      refine .inl ⟨hie ▸ yl.stop F2 H2 x2.ff x2.sub, ?_⟩
      rw [List.drop_eq_nil_of_le hle] at hp
      have hp : ∀ p vs H' F', Ext g F H F' H' w2 → H p = none → F'.free p → H' p = some (.lst vs) → DRs g F' vs (ys ++ []) → Q (.ref p) H' := hp
      rw [List.append_nil] at hp
      exact hp D acc H2 F2 (x1.trans x2) (x1.fresh nD) nF2 hD rys
    | some d =>
      obtain ⟨hlt, hde⟩ := List.getElem?_eq_some_iff.mp hd
      obtain ⟨hgo, hyl⟩ := yl.go i d F2 H2 x2.ff x2.sub hd
      rw [List.drop_eq_getElem_cons hlt, hde] at hp
      refine .inr ⟨hgo, fun H3 => ∃ F2 w2 acc ys, Ext g F1 H1 F2 H3 w2 ∧ F2.free D ∧ H3 D = some (.lst acc) ∧ DRs g F2 acc ys ∧ ys.length ≤ i + 1 ∧
        PostG g F H (E σ) (fun zs w' => ∀ p vs H' F', Ext g F H F' H' w' → H p = none → F'.free p → H' p = some (.lst vs) → DRs g F' vs (ys ++ zs) → Q (.ref p) H') (lcLoop gm tm em (wipeS S vs) (ds.drop (i + 1)) w2), fun H' hN => ?_, fun x H3 hx => ?_⟩
      · obtain ⟨F', w', acc', ys', b1, b2, b3, b4, b5, b6⟩ := hN
        exact ⟨m - 1, by omega, F', w', acc', ys', b1, b2, b3, b4, b5, by omega, b6⟩
      · -- the item, perhaps in a new pair
        have item : ∃ F3, Ext g F2 H2 F3 H3 w2 ∧ DR g F3 x d := by
          rcases hyl x H3 hx with ⟨e1, r1⟩ | ⟨T, xs, es, e1, nT, e2, r1, e3⟩
          · subst e1; exact ⟨F2, Ext.refl x2.sub x2.bx, r1⟩
          · subst e1 e2 e3
            exact ⟨_, Ext.lay x2.sub x2.bx nT, .tup (.inl (.inl upd_same)) (r1.mono (Ext.lay x2.sub x2.bx nT).ff)⟩
        obtain ⟨F3, x3, rx⟩ := item
        have x13 : Ext g F H F3 H3 w2 := x1.trans (x2.trans x3)
        cases hg : gm d (wipeS S vs) with
        | none => unfold lcLoop at hp; rw [hg] at hp; exact hp.elim
        | some S1 =>
          unfold lcLoop at hp
          rw [hg] at hp
          refine ⟨F3, wipeS S vs, w2, d, S1, (R.ext x13).wipe vs, rx, hg, fun σ2 R2 wp => ⟨?_, ?_⟩⟩
          · rw [wp vs hn]
            apply List.ext_getElem?
            intro j
            simp only [wipe_get, wipe_length]
            by_cases hj : j ∈ vs
            · simp only [if_pos hj]
            · simp only [if_neg hj]
          · refine ⟨F3, S1, w2, R2, nx_post (PostG.ext x13 (PostG.bind hp) fun b w3 h3 => h3) fun b w3 h3 H4 F4 x4 => ?_⟩
            have x14 := x13.trans x4
            have nF4 : F4.free D := (x3.trans x4).free nF2 hD
            have hD4 : H4 D = some (.lst acc) := (x3.trans x4).hh D _ nDb nF2.2 (fun _ z => by cases z) hD
            cases b with
            | false =>
              refine iteF ?_
              exact ⟨F4, w3, acc, ys, x2.trans (x3.trans x4), nF4, hD4, rys.mono (x3.ff.trans x4.ff), by omega, h3⟩
            | true =>
              refine iteT ?_
              refine ⟨F4, S1, w3, R2.ext x4, nx_post (PostG.ext x14 (PostG.bind h3) fun y w5 h5 => h5) fun y w5 h5 v H5 F5 x5 ry => ?_⟩
              have nF5 : F5.free D := x5.free nF4 hD4
              have hD5 : H5 D = some (.lst acc) := x5.hh D _ nDb nF4.2 (fun _ z => by cases z) hD4
              have hal : acc.length = ys.length := rys.length
              refine ⟨acc, hD5, by show acc.length < sizeN; omega, F5, w5, acc ++ [v], ys ++ [y], Ext.mut (x2.trans (x3.trans (x4.trans x5))) nD nF5 nDb hD5 (.inl ⟨_, rfl⟩), nF5, upd_same, (rys.mono (x3.ff.trans (x4.ff.trans x5.ff))).append (.cons ry .nil), by rw [List.length_append, List.length_singleton]; omega, ?_⟩
              refine PostG.imp (PostG.bind h5) fun zs w6 _ h6 => ?_
              rw [List.append_assoc]
              exact h6
  · rw [if_neg hl] at h1; exact h1.elim
theorem do_lc {elt tg iter : Expr} {ifs : List Expr} {scope : Scope} {fi : AM} {gm : GM} {tm : TM} {em : EM} {ns : List Nat} (own : List (Str × Nat)) (hc : X.calm = true) (hN : X.N.Nodup) (hi : DI X g E tg iter fi) (ok : BlkOk X.N X.env.scope scope own)
    (hg : ∀ (s : Shared) (H : Hp) (C : Addr) (cl : List (Str × Addr)) (fp : List Addr), DG (X.blk s H scope (compEnvC scope cl C X.env) fp) g tg ns gm) (ht : ∀ (s : Shared) (H : Hp) (C : Addr) (cl : List (Str × Addr)) (fp : List Addr), DTs (X.blk s H scope (compEnvC scope cl C X.env) fp) g (kE E0) ifs tm)
    (he : ∀ (s : Shared) (H : Hp) (C : Addr) (cl : List (Str × Addr)) (fp : List Addr), DE (X.blk s H scope (compEnvC scope cl C X.env) fp) g (kE E0) elt em) (hn : ∀ i ∈ ns, i ∈ own.map (·.2) := by decide) (hs : ∀ x, foldedSetIterable iter X.env x = pure x := by intro _; rfl) :
    DO X g E (.ListComp elt [⟨tg, iter, ifs, 0⟩] scope pos) (oLc fi gm tm em (own.map (·.2))) := by
  obtain ⟨wi, p, ri⟩ := hi.run
  exact ⟨_, pe_lc hc hN p ok (fun s H C cl fp => (hg s H C cl fp).pg) (fun s H C cl fp => (ht s H C cl fp).pts) (fun s H C cl fp => (he s H C cl fp).pe) hs, lc_run hn ri⟩
end
end Y
namespace Y
open PySem PySem.Spec PyProof.Rows L2
inductive RS where
  | nx (S : SL) (w : Bx) | rt (d : D) (w : Bx) | bk (S : SL) (w : Bx) | ct (S : SL) (w : Bx) | err (S : SL) (c : Str) (fs : List (Str × D)) (w : Bx) | bad
abbrev SM := SL → Bx → RS
structure RelS (g : G) (F0 : FH) (H0 : Hp) (B F : FH) (w : Bx) (S : SL) (σ : L2.St) (H : Hp) : Prop where
  rel : Rel g F w S σ H
  ext : Ext g F0 H0 F H w
  fl : FSame B F
  fr : ∀ (i : Nat) (ds : List D) (p : Addr), S[i]? = some (some (.own ds)) → σ[i]? = some (some (.ref p)) → H0 p = none
def PostS (g : G) (F0 : FH) (H0 : Hp) (B : FH) (E : EK) (N : Ends) : RS → Prop
  | .nx S w => ∀ (σ' : L2.St) (H' : Hp) (F' : FH), RelS g F0 H0 B F' w S σ' H' → N.nx σ' H'
  | .bk S w => ∀ (σ' : L2.St) (H' : Hp) (F' : FH), RelS g F0 H0 B F' w S σ' H' → N.bk σ' H'
  | .ct S w => ∀ (σ' : L2.St) (H' : Hp) (F' : FH), RelS g F0 H0 B F' w S σ' H' → N.ct σ' H'
  | .rt d w => ∀ (v : V) (H' : Hp) (F' : FH), Ext g F0 H0 F' H' w → DR g F' v d → N.rt v H'
  | .err S c fs w => ∀ (σ' : L2.St) (H' : Hp) (F' : FH), RelS g F0 H0 B F' w S σ' H' → ∀ (cl a : Addr) (vs : List (Str × V)), H0 a = none → g.cls c = some cl → H' a = some (.xd vs) → DRf g F' vs fs → E σ' (.ref cl) (some a) H'
  | .bad => False
structure DS (X : Cx) (g : G) (E : EK) (F0 : FH) (H0 : Hp) (st : Stmt) (m : SM) : Prop where
  run : ∃ t, PS X st t ∧ ∀ (N : Ends) (σ : L2.St) (H : Hp) (F : FH) (S : SL) (w : Bx) (B : FH), RelS g F0 H0 B F w S σ H → PostS g F0 H0 B E N (m S w) → t N σ H
structure DSs (X : Cx) (g : G) (E : EK) (F0 : FH) (H0 : Hp) (st : List Stmt) (m : SM) : Prop where
  run : ∃ t, PSs X st t ∧ ∀ (N : Ends) (σ : L2.St) (H : Hp) (F : FH) (S : SL) (w : Bx) (B : FH), RelS g F0 H0 B F w S σ H → PostS g F0 H0 B E N (m S w) → t N σ H
/-- a value, then what follows -/
def R.to {α : Type} : R α → SL → (α → Bx → RS) → RS
  | .ok a w, _, k => k a w
  | .err c fs w, S, _ => .err S c fs w
  | .bad, _, _ => .bad
@[simp] theorem R.to_ok {α : Type} (a : α) (w : Bx) (S : SL) (k : α → Bx → RS) : (R.ok a w).to S k = k a w := rfl
@[simp] theorem R.to_err {α : Type} (c : Str) (fs : List (Str × D)) (w : Bx) (S : SL) (k : α → Bx → RS) : (R.err c fs w : R α).to S k = .err S c fs w := rfl
@[simp] theorem R.to_bad {α : Type} (S : SL) (k : α → Bx → RS) : (R.bad : R α).to S k = .bad := rfl
section
variable {X : Cx} {g : G} {E : EK} {F0 : FH} {H0 : Hp} {B : FH} {e a b c : Expr} {es : List Expr} {pos p p2 : Pos} {fa fb f : EM} {fs : AM} {st : Stmt} {sts : List Stmt} {m m2 : SM} {N : Ends}
theorem RelS.ext' {F F' : FH} {H H' : Hp} {w w' : Bx} {S : SL} {σ : L2.St} (R : RelS g F0 H0 B F w S σ H) (x : Ext g F H F' H' w') : RelS g F0 H0 B F' w' S σ H' := ⟨R.rel.ext x, R.ext.trans x, R.fl.trans x.ff, R.fr⟩
theorem PostS.to {α : Type} {F : FH} {H : Hp} {w : Bx} {S : SL} {σ : L2.St} {r : R α} {k : α → Bx → RS} (R0 : RelS g F0 H0 B F w S σ H) (h : PostS g F0 H0 B E N (r.to S k)) : PostG g F H (E σ) (fun a w' => PostS g F0 H0 B E N (k a w')) r := by
  cases r with
  | ok a w => exact h
  | err c fs w => exact fun cl x vs H' F' e n k l q => h σ H' F' (RelS.ext' R0 e) cl x vs (R0.ext.fresh n) k l q
  | bad => exact h
def sNil : SM := fun S w => .nx S w
def sSeq (m k : SM) : SM := fun S w => match m S w with
  | .nx S1 w1 => k S1 w1
  | r => r
theorem dss_nil : DSs X g E F0 H0 [] sNil := ⟨_, pss_nil, fun N σ H F S w B R h => h σ H F R⟩
theorem dss_cons (h1 : DS X g E F0 H0 st m) (h2 : DSs X g E F0 H0 sts m2) : DSs X g E F0 H0 (st :: sts) (sSeq m m2) := by
  obtain ⟨t, p, r⟩ := h1.run
  obtain ⟨t2, p2, r2⟩ := h2.run
  refine ⟨_, pss_cons p p2, fun N σ H F S w B R h => ?_⟩
  refine r { N with nx := t2 N } σ H F S w B R ?_
  unfold sSeq at h
  cases hm : m S w with
  | nx S1 w1 => rw [hm] at h; exact fun σ' H' F' R' => r2 N σ' H' F' S1 w1 B R' h
  | rt d w1 => rw [hm] at h; exact h
  | bk S1 w1 => rw [hm] at h; exact h
  | ct S1 w1 => rw [hm] at h; exact h
  | err S1 c fs w1 => rw [hm] at h; exact h
  | bad => rw [hm] at h; exact h
theorem dss_one (h1 : DS X g E F0 H0 st m) : DSs X g E F0 H0 [st] m := let ⟨t, p, r⟩ := h1.run; ⟨t, pss_one p, r⟩
def sRet (f : EM) : SM := fun S w => (f S w).to S fun d w1 => .rt d w1
theorem ds_ret (ha : DE X g E a fa) : DS X g E F0 H0 (.Return (some a) pos) (sRet fa) := by
  obtain ⟨t, p, r⟩ := ha.run
  refine ⟨_, ps_ret p, fun N σ H F S w B R h => ?_⟩
  exact r σ H _ F S w R.rel (PostG.imp (PostS.to R h) fun d w1 _ h1 v H1 F1 x1 r1 => h1 v H1 F1 (R.ext.trans x1) r1)
def sIf (t : TM) (m k : SM) : SM := fun S w => (t S w).to S fun b w1 => if b then m S w1 else k S w1
theorem ds_if {tc : TM} {aa bb : List Stmt} (hc : DT X g E c tc) (ha : DSs X g E F0 H0 aa m) (hb : DSs X g E F0 H0 bb m2) : DS X g E F0 H0 (.If c aa bb pos) (sIf tc m m2) := by
  obtain ⟨t, p, r⟩ := hc.run
  obtain ⟨t1, p1, r1⟩ := ha.run
  obtain ⟨t2, p2, r2⟩ := hb.run
  refine ⟨_, ps_if p p1 p2, fun N σ H F S w B R h => ?_⟩
  refine r σ H _ F S w R.rel (PostG.imp (PostS.to R h) fun b w1 _ h1 H1 F1 x1 => ?_)
  cases b with
  | true => exact iteT (r1 N σ H1 F1 S w1 B (R.ext' x1) h1)
  | false => exact iteF (r2 N σ H1 F1 S w1 B (R.ext' x1) h1)
theorem RelS.set {F : FH} {H : Hp} {w : Bx} {S : SL} {σ : L2.St} {v : V} {d : D} (R : RelS g F0 H0 B F w S σ H) (i : Nat) (r : DR g F v d) : RelS g F0 H0 B F w (S.set i (some (.dat d))) (σ.set i (some v)) H := by
  refine ⟨R.rel.set i r, R.ext, R.fl, fun j ds p h1 h2 => ?_⟩
  rw [List.getElem?_set] at h1 h2
  by_cases e : i = j
  · rw [if_pos e] at h1; split at h1 <;> cases h1
  · rw [if_neg e] at h1 h2; exact R.fr j ds p h1 h2
theorem RelS.setO {F : FH} {H : Hp} {w : Bx} {S : SL} {σ : L2.St} {q : Addr} {vs : List V} {ds : List D} (R : RelS g F0 H0 B F w S σ H) (i : Nat) (n0 : H0 q = none) (nF : F.free q) (nb : q ≠ g.bx) (hq : H q = some (.lst vs)) (r : DRs g F vs ds)
    (ne : ∀ (j : Nat) (es : List D), S[j]? = some (some (.own es)) → σ[j]? ≠ some (some (.ref q))) : RelS g F0 H0 B F w (S.set i (some (.own ds))) (σ.set i (some (.ref q))) H := by
  refine ⟨⟨R.rel.sub, R.rel.bx, by rw [List.length_set, List.length_set]; exact R.rel.len, fun j s hs => ?_, fun j k es es2 u h1 h2 h3 h4 => ?_⟩, R.ext, R.fl, fun j es p h1 h2 => ?_⟩
  · rw [List.getElem?_set] at hs ⊢
    by_cases e : i = j
    · rw [if_pos e] at hs ⊢
      by_cases hl : j < S.length
      · rw [if_pos (e ▸ hl)] at hs; cases hs
        rw [if_pos (by rw [e, ← R.rel.len]; exact hl)]
        exact ⟨_, rfl, q, vs, rfl, nF, nb, hq, r⟩
      · rw [if_neg (e ▸ hl)] at hs; cases hs
    · rw [if_neg e] at hs ⊢; exact R.rel.sl j s hs
  · rw [List.getElem?_set] at h1 h2 h3 h4
    by_cases e : i = j
    · by_cases e2 : i = k
      · exact e.symm.trans e2
      · rw [if_pos e] at h1 h3; rw [if_neg e2] at h2 h4
        by_cases hl : i < S.length
        · rw [if_pos (by rw [← R.rel.len]; exact hl)] at h3; cases h3
          exact absurd h4 (ne k es2 h2)
        · rw [if_neg hl] at h1; cases h1
    · by_cases e2 : i = k
      · rw [if_neg e] at h1 h3; rw [if_pos e2] at h2 h4
        by_cases hl : i < S.length
        · rw [if_pos (by rw [← R.rel.len]; exact hl)] at h4; cases h4
          exact absurd h3 (ne j es h1)
        · rw [if_neg hl] at h2; cases h2
      · rw [if_neg e] at h1 h3; rw [if_neg e2] at h2 h4; exact R.rel.inj j k es es2 u h1 h2 h3 h4
  · rw [List.getElem?_set] at h1 h2
    by_cases e : i = j
    · rw [if_pos e] at h1 h2
      split at h2
      · cases h2; exact n0
      · cases h2
    · rw [if_neg e] at h1 h2; exact R.fr j es p h1 h2
def sSet (i : Nat) (f : EM) : SM := fun S w => (f S w).to S fun d w1 => .nx (S.set i (some (.dat d))) w1
def sSetO (i : Nat) (f : AM) : SM := fun S w => (f S w).to S fun ds w1 => .nx (S.set i (some (.own ds))) w1
theorem set_run {t : TE} {i : Nat} (r : ∀ σ H Q F S w, Rel g F w S σ H → Post g F H Q (E σ) (f S w) → t σ H Q) : ∀ (N : Ends) (σ : L2.St) (H : Hp) (F : FH) (S : SL) (w : Bx) (B : FH), RelS g F0 H0 B F w S σ H → PostS g F0 H0 B E N (sSet i f S w) → tAsg t (gName i) N σ H := by
  intro N σ H F S w B R h
  exact r σ H _ F S w R.rel (PostG.imp (PostS.to R h) fun d w1 _ h1 v H1 F1 x1 r1 => h1 _ H1 F1 ((R.ext' x1).set i r1))
theorem setO_run {t : TE} {i : Nat} (r : ∀ σ H Q F S w, Rel g F w S σ H → PostO g F H Q (E σ) (fs S w) → t σ H Q) : ∀ (N : Ends) (σ : L2.St) (H : Hp) (F : FH) (S : SL) (w : Bx) (B : FH), RelS g F0 H0 B F w S σ H → PostS g F0 H0 B E N (sSetO i fs S w) → tAsg t (gName i) N σ H := by
  intro N σ H F S w B R h
  refine r σ H _ F S w R.rel (PostG.imp (PostS.to R h) fun d w1 _ h1 p vs H1 F1 x1 np nF hp r1 => h1 _ H1 F1 ((R.ext' x1).setO i (R.ext.fresh np) nF (not_box R.rel.bx np) hp r1 fun j es hj hs => ?_))
  obtain ⟨v, e1, q, us, e2, e3, e4, e5, e6⟩ := R.rel.sl j _ hj
  rw [hs] at e1; cases e1
  cases e2
  rw [np] at e5; cases e5
theorem ds_set (i : Nat) {x : Str} (ha : DE X g E a f) (hN : X.N.Nodup) (hi : X.N[i]? = some x := by rfl) (hx : Loc X.env.scope x := by first | exact Or.inl rfl | exact Or.inr rfl) (hs : swapsWith a (some (.Name x p2)) pos.line X.env = pure false := by rfl)
    (hf : X.fn x = true ∨ X.env.scope.names.lookup x = some .local := by first | exact .inl rfl | exact .inr rfl) : DS X g E F0 H0 (.Assign [.Name x p2] a pos) (sSet i f) := by
  obtain ⟨t, p, r⟩ := ha.run
  exact ⟨_, ps_set hN hi hx p hs hf, set_run r⟩
theorem ds_setO (i : Nat) {x : Str} (ha : DO X g E a fs) (hN : X.N.Nodup) (hi : X.N[i]? = some x := by rfl) (hx : Loc X.env.scope x := by first | exact Or.inl rfl | exact Or.inr rfl) (hs : swapsWith a (some (.Name x p2)) pos.line X.env = pure false := by rfl)
    (hf : X.fn x = true ∨ X.env.scope.names.lookup x = some .local := by first | exact .inl rfl | exact .inr rfl) : DS X g E F0 H0 (.Assign [.Name x p2] a pos) (sSetO i fs) := by
  obtain ⟨t, p, r⟩ := ha.run
  exact ⟨_, ps_set hN hi hx p hs hf, setO_run r⟩
theorem ds_setLcO (i : Nat) {y : Str} {py : Pos} {elt tg iter : Expr} {ifs : List Expr} {scope : Scope} {fi : AM} {gm : GM} {tm : TM} {em : EM} {ns : List Nat} {spos : Pos} (own : List (Str × Nat)) (hc : X.calm = true) (hN : X.N.Nodup) (hy : X.N[i]? = some y) (hyl : X.env.scope.names.lookup y = some .local)
    (hsw : swapsWith (.ListComp elt [⟨tg, iter, ifs, 0⟩] scope pos) (some (.Name y py)) spos.line X.env = pure true) (hi : DI X g E tg iter fi) (ok : BlkOk X.N X.env.scope scope own)
    (hg : ∀ (s : Shared) (H : Hp) (C : Addr) (cl : List (Str × Addr)) (fp : List Addr), DG (X.blk s H scope (compEnvC scope cl C X.env) fp) g tg ns gm) (ht : ∀ (s : Shared) (H : Hp) (C : Addr) (cl : List (Str × Addr)) (fp : List Addr), DTs (X.blk s H scope (compEnvC scope cl C X.env) fp) g (kE E0) ifs tm)
    (he : ∀ (s : Shared) (H : Hp) (C : Addr) (cl : List (Str × Addr)) (fp : List Addr), DE (X.blk s H scope (compEnvC scope cl C X.env) fp) g (kE E0) elt em) (hn : ∀ i ∈ ns, i ∈ own.map (·.2) := by decide) (hs : ∀ x, foldedSetIterable iter X.env x = pure x := by intro _; rfl) :
    DS X g E F0 H0 (.Assign [.Name y py] (.ListComp elt [⟨tg, iter, ifs, 0⟩] scope pos) spos) (sSetO i (oLc fi gm tm em (own.map (·.2)))) := by
  obtain ⟨wi, p, ri⟩ := hi.run
  exact ⟨_, ps_setLc hc hN hy hyl hsw p ok (fun s H C cl fp => (hg s H C cl fp).pg) (fun s H C cl fp => (ht s H C cl fp).pts) (fun s H C cl fp => (he s H C cl fp).pe) hs, setO_run (lc_run hn ri)⟩
/-- any target -/
theorem wipe_off {σ σ' : L2.St} {ns : List Nat} (h : L2.wipe σ' ns = L2.wipe σ ns) {i : Nat} (hi : i ∉ ns) : σ'[i]? = σ[i]? := by
  have h1 := congrArg (fun l : L2.St => l[i]?) h
  simp only [wipe_get, if_neg hi] at h1
  exact h1
theorem RelS.tgt {F : FH} {H : Hp} {w : Bx} {S S' : SL} {σ σ' : L2.St} {tg : Expr} {ns : List Nat} {gm : GM} {d : D} (hg : DG X g tg ns gm) (R : RelS g F0 H0 B F w S σ H) (hm : gm d S = some S') (R' : Rel g F w S' σ' H) (hw : ∀ vs, (∀ i ∈ ns, i ∈ vs) → L2.wipe σ' vs = L2.wipe σ vs) : RelS g F0 H0 B F w S' σ' H :=
  ⟨R', R.ext, R.fl, fun i ds p h1 h2 => by
    obtain ⟨a1, a2⟩ := hg.own d S S' i ds hm h1
    rw [wipe_off (hw ns fun _ z => z) a2] at h2
    exact R.fr i ds p a1 h2⟩
def sAsg (f : EM) (gm : GM) : SM := fun S w => (f S w).to S fun d w1 => match gm d S with
  | some S1 => .nx S1 w1
  | none => .bad
theorem ds_asg {tg : Expr} {ns : List Nat} {gm : GM} (ha : DE X g E a f) (hg : DG X g tg ns gm) (hq : ∀ (te : TE) (tt : TG), PE X a te → PG X tg tt → PS X (.Assign [tg] a pos) (tAsg te tt) := by exact fun _ _ h1 h2 => ps_asg h1 h2) : DS X g E F0 H0 (.Assign [tg] a pos) (sAsg f gm) := by
  obtain ⟨t, p, r⟩ := ha.run
  obtain ⟨tg', pg, rg⟩ := hg.run
  refine ⟨_, hq _ _ p pg, fun N σ H F S w B R h => ?_⟩
  refine r σ H _ F S w R.rel (PostG.imp (PostS.to R h) fun d w1 _ h1 v H1 F1 x1 r1 => ?_)
  cases hm : gm d S with
  | none => rw [hm] at h1; exact h1.elim
  | some S1 =>
    rw [hm] at h1
    exact rg v σ H1 _ F1 S w1 d S1 (R.rel.ext x1) r1 hm fun σ' R' hw => h1 σ' H1 F1 ((R.ext' x1).tgt hg hm R' hw)
/-- a, b = x, y -/
def sPar (i j : Nat) (fs : AM) : SM := fun S w => (fs S w).to S fun ds w1 => match ds with
  | [d, e] => .nx ((S.set i (some (.dat d))).set j (some (.dat e))) w1
  | _ => .bad
def sPar3 (i j k : Nat) (fs : AM) : SM := fun S w => (fs S w).to S fun ds w1 => match ds with
  | [d, e, q] => .nx (((S.set i (some (.dat d))).set j (some (.dat e))).set k (some (.dat q))) w1
  | _ => .bad
theorem RelS.mut {F : FH} {H : Hp} {w : Bx} {S : SL} {σ : L2.St} {i : Nat} {q : Addr} {us : List V} {ds es : List D} (R : RelS g F0 H0 B F w S σ H) (hi : S[i]? = some (some (.own ds))) (hs : σ[i]? = some (some (.ref q))) (nF : F.free q) (nb : q ≠ g.bx) (r : DRs g F us es) :
    RelS g F0 H0 B F w (S.set i (some (.own es))) σ (upd H q (.lst us)) := by
  have hl : i < S.length := (List.getElem?_eq_some_iff.mp hi).1
  have hqv : ∃ vs0, H q = some (.lst vs0) := by
    obtain ⟨v, e1, q', vs', e2, _, _, hp', _⟩ := R.rel.sl i _ hi
    rw [hs] at e1; cases e1; cases e2
    exact ⟨vs', hp'⟩
  obtain ⟨vs0, hqv⟩ := hqv
  have x : Ext g F0 H0 F (upd H q (.lst us)) w := Ext.mut R.ext (R.fr i ds q hi hs) nF nb hqv (.inl ⟨_, rfl⟩)
  refine ⟨⟨x.sub, x.bx, by rw [List.length_set]; exact R.rel.len, fun j s hj => ?_, fun j k es1 es2 u h1 h2 h3 h4 => ?_⟩, x, R.fl, fun j es1 p h1 h2 => ?_⟩
  · rw [List.getElem?_set] at hj
    by_cases e : i = j
    · subst e
      rw [if_pos rfl, if_pos hl] at hj; cases hj
      exact ⟨_, hs, q, us, rfl, nF, nb, upd_same, r⟩
    · rw [if_neg e] at hj
      obtain ⟨v, e1, e2⟩ := R.rel.sl j s hj
      refine ⟨v, e1, ?_⟩
      cases s with
      | dat d => exact e2
      | own zs =>
        obtain ⟨q2, ws, e3, e4, e5, e6, e7⟩ := e2
        subst e3
        refine ⟨q2, ws, rfl, e4, e5, ?_, e7⟩
        rw [upd_ne (fun z => e ?_)]
        · exact e6
        · subst z; exact (R.rel.inj i j ds zs _ hi hj hs e1)
      | lam ls =>
        obtain ⟨p, ws, e3, e4, e5⟩ := e2
        obtain ⟨v2, k1, q2, ws2, k2, _, _, k3, _⟩ := R.rel.sl i _ hi
        rw [hs] at k1; cases k1; cases k2
        exact ⟨p, ws, e3, e4, e5.upd k3 fun _ z => by cases z⟩
      | cls c => exact e2
      | ins c fs =>
        obtain ⟨C, ws, e3, hc, n1, n2, b1, b2, g1, g2, e7⟩ := e2
        obtain ⟨v2, k1, q2, ws2, k2, _, _, k3, _⟩ := R.rel.sl i _ hi
        rw [hs] at k1; cases k1; cases k2
        have d1 : g.me ≠ q := fun z => by rw [z, k3] at g1; cases g1
        have d2 : g.md ≠ q := fun z => by rw [z, k3] at g2; cases g2
        exact ⟨C, ws, e3, hc, n1, n2, b1, b2, by rw [upd_ne d1]; exact g1, by rw [upd_ne d2]; exact g2, e7⟩
  · have key : ∀ (j : Nat) (zs : List D), (S.set i (some (.own es)))[j]? = some (some (.own zs)) → ∃ zs', S[j]? = some (some (.own zs')) := fun j zs h => by
      rw [List.getElem?_set] at h
      by_cases e : i = j
      · subst e; exact ⟨ds, hi⟩
      · rw [if_neg e] at h; exact ⟨zs, h⟩
    obtain ⟨z1, h1⟩ := key j es1 h1
    obtain ⟨z2, h2⟩ := key k es2 h2
    exact R.rel.inj j k z1 z2 u h1 h2 h3 h4
  · rw [List.getElem?_set] at h1
    by_cases e : i = j
    · subst e; exact R.fr i ds p hi h2
    · rw [if_neg e] at h1; exact R.fr j es1 p h1 h2
def ownAt (S : SL) (i : Nat) : Option (List D) := match S[i]? with
  | some (some (.own ds)) => some ds
  | _ => none
theorem ownAt_some {S : SL} {i : Nat} {ds : List D} (h : ownAt S i = some ds) : S[i]? = some (some (.own ds)) := by
  unfold ownAt at h
  split at h
  · cases h; assumption
  · cases h
def sAppend (i : Nat) (f : EM) : SM := fun S w => match ownAt S i with
  | some ds => (f S w).to S fun d w1 => if ds.length < sizeN then .nx (S.set i (some (.own (ds ++ [d])))) w1 else .bad
  | none => .bad
theorem ds_append (i : Nat) {x : Str} {px apos : Pos} (hK : g.K = X.K) (ha : DE X g E a f) (hN : X.N[i]? = some x := by rfl) (hv : Vis X.env.scope x := by first | exact Or.inl rfl | exact Or.inr (Or.inl rfl) | exact Or.inr (Or.inr rfl)) (hd : (x == ("__debug__" : Str)) = false := by decide)
    (hcd : (x == ("__classdict__" : Str)) = false := by decide)
    (hq : ∀ (to te : TE), PE X (.Name x px) to → PE X a te → PE X (.Call (.Attribute (.Name x px) "append" apos) [a] [] p) (tBM X.K "list" rAppend to (tCons te tNil)) := by exact fun _ _ h1 h2 => pe_bm PySem.F.plainAttrs_list PySem.F.slot_list_append PySem.F.type_list_append mt_append h1 (pa_cons h2 pa_nil))
    (hs : swapsWith (.Call (.Attribute (.Name x px) "append" apos) [a] [] p) none pos.line X.env = pure false := by rfl) :
    DS X g E F0 H0 (.Expr (.Call (.Attribute (.Name x px) "append" apos) [a] [] p) pos) (sAppend i f) := by
  obtain ⟨t, pa, r⟩ := ha.run
  refine ⟨_, ps_expr (hq _ _ (pe_var hN hv hd hcd) pa) hs, fun N σ H F S w B R h => ?_⟩
  unfold sAppend at h
  cases ho : ownAt S i with
  | none => rw [ho] at h; exact h.elim
  | some ds =>
    rw [ho] at h
    have hi := ownAt_some ho
    obtain ⟨v, e1, q, vs, e2, nF, nb, hp, rd⟩ := R.rel.sl i _ hi
    subst e2
    refine ⟨_, e1, .inl ⟨rfl, vs, .inl (.inl hp)⟩, ?_⟩
    refine r σ H _ F S w R.rel (PostG.imp (PostS.to R h) fun d w1 _ h1 v H1 F1 x1 r1 => ?_)
    have R1 := R.ext' x1
    obtain ⟨v2, e3, q2, vs2, e4, nF1, _, hp1, rd1⟩ := R1.rel.sl i _ hi
    rw [e1] at e3; cases e3; cases e4
    by_cases hl : ds.length < sizeN
    · rw [if_pos hl] at h1
      exact ⟨q, vs2, v, rfl, rfl, hp1, by rw [rd1.length]; exact hl, h1 _ _ F1 (R1.mut hi e1 nF1 nb (rd1.append (.cons r1 .nil)))⟩
    · rw [if_neg hl] at h1; exact h1.elim
def sExtend (i : Nat) (f : EM) : SM := fun S w => match ownAt S i with
  | some ds => (f S w).to S fun d w1 => match d with
    | .lst es => if ds.length + es.length ≤ sizeN then .nx (S.set i (some (.own (ds ++ es)))) w1 else .bad
    | _ => .bad
  | none => .bad
theorem ds_extend (i : Nat) {x : Str} {px apos : Pos} (hK : g.K = X.K) (ha : DE X g E a f) (hN : X.N[i]? = some x := by rfl) (hv : Vis X.env.scope x := by first | exact Or.inl rfl | exact Or.inr (Or.inl rfl) | exact Or.inr (Or.inr rfl)) (hd : (x == ("__debug__" : Str)) = false := by decide)
    (hcd : (x == ("__classdict__" : Str)) = false := by decide)
    (hq : ∀ (to te : TE), PE X (.Name x px) to → PE X a te → PE X (.Call (.Attribute (.Name x px) "extend" apos) [a] [] p) (tBM X.K "list" rExtend to (tCons te tNil)) := by exact fun _ _ h1 h2 => pe_bm PySem.F.plainAttrs_list PySem.F.slot_list_extend PySem.F.type_list_extend mt_extend h1 (pa_cons h2 pa_nil))
    (hs : swapsWith (.Call (.Attribute (.Name x px) "extend" apos) [a] [] p) none pos.line X.env = pure false := by rfl) :
    DS X g E F0 H0 (.Expr (.Call (.Attribute (.Name x px) "extend" apos) [a] [] p) pos) (sExtend i f) := by
  obtain ⟨t, pa, r⟩ := ha.run
  refine ⟨_, ps_expr (hq _ _ (pe_var hN hv hd hcd) pa) hs, fun N σ H F S w B R h => ?_⟩
  unfold sExtend at h
  cases ho : ownAt S i with
  | none => rw [ho] at h; exact h.elim
  | some ds =>
    rw [ho] at h
    have hi := ownAt_some ho
    obtain ⟨v, e1, q, vs, e2, nF, nb, hp, rd⟩ := R.rel.sl i _ hi
    subst e2
    refine ⟨_, e1, .inl ⟨rfl, vs, .inl (.inl hp)⟩, ?_⟩
    refine r σ H _ F S w R.rel (PostG.imp (PostS.to R h) fun d w1 _ h1 v H1 F1 x1 r1 => ?_)
    have R1 := R.ext' x1
    obtain ⟨v2, e3, q2, vs2, e4, nF1, _, hp1, rd1⟩ := R1.rel.sl i _ hi
    rw [e1] at e3; cases e3; cases e4
    cases r1 with
    | @lst b ys es hb rs =>
      by_cases hl : ds.length + es.length ≤ sizeN
      · simp only [if_pos hl] at h1
        exact ⟨q, b, vs2, ys, rfl, rfl, hp1, x1.sub _ _ hb, by rw [rd1.length, rs.length]; exact hl, h1 _ _ F1 (R1.mut hi e1 nF1 nb (rd1.append rs))⟩
      · simp only [if_neg hl] at h1; exact h1.elim
    | _ => exact h1.elim
def sPut (i : Nat) (fi f : EM) : SM := fun S w => (f S w).to S fun d w1 => match ownAt S i with
  | some ds => (fi S w1).to S fun k w2 => match k with
    | .int j => match ixN ds.length j with
      | some n => .nx (S.set i (some (.own (ds.set n d)))) w2
      | none => .bad
    | _ => .bad
  | none => .bad
theorem ds_put (i : Nat) {x : Str} {px tpos : Pos} {fi : EM} (hb : DE X g E b fi) (ha : DE X g E a f) (hN : X.N[i]? = some x := by rfl) (hv : Vis X.env.scope x := by first | exact Or.inl rfl | exact Or.inr (Or.inl rfl) | exact Or.inr (Or.inr rfl)) (hd : (x == ("__debug__" : Str)) = false := by decide)
    (hcd : (x == ("__classdict__" : Str)) = false := by decide)
    (hq : ∀ (to ti te : TE), PE X (.Name x px) to → PE X b ti → PE X a te → PS X (.Assign [.Subscript (.Name x px) b tpos] a pos) (tAsg te (gSub to ti rSetL)) := by exact fun _ _ _ h1 h2 h3 => ps_asg h3 (pg_sub h1 h2 set_list)) :
    DS X g E F0 H0 (.Assign [.Subscript (.Name x px) b tpos] a pos) (sPut i fi f) := by
  obtain ⟨t, pa, r⟩ := ha.run
  obtain ⟨ti, pi, ri⟩ := hb.run
  refine ⟨_, hq _ _ _ (pe_var hN hv hd hcd) pi pa, fun N σ H F S w B R h => ?_⟩
  refine r σ H _ F S w R.rel (PostG.imp (PostS.to R h) fun d w1 _ h1 v H1 F1 x1 r1 => ?_)
  have R1 := R.ext' x1
  cases ho : ownAt S i with
  | none => rw [ho] at h1; exact h1.elim
  | some ds =>
    rw [ho] at h1
    have hi := ownAt_some ho
    obtain ⟨u, e1, q, vs, e2, nF, nb, hp, rd⟩ := R1.rel.sl i _ hi
    subst e2
    refine ⟨_, e1, ri σ H1 _ F1 S w1 R1.rel (PostG.imp (PostS.to R1 h1) fun k w2 _ h2 y H2 F2 x2 r2 => ?_)⟩
    have R2 := R1.ext' x2
    obtain ⟨v2, e3, q2, vs2, e4, nF2, _, hp2, rd2⟩ := R2.rel.sl i _ hi
    rw [e1] at e3; cases e3; cases e4
    cases r2 with
    | int j =>
      cases hx : ixN ds.length j with
      | none => simp only [hx] at h2; exact h2.elim
      | some n =>
        simp only [hx] at h2
        exact ⟨q, vs2, j, n, rfl, rfl, hp2, by rw [rd2.length]; exact hx, h2 _ _ F2 (R2.mut hi e1 nF2 nb (rd2.set (r1.mono x2.ff) n))⟩
    | _ => exact h2.elim
/-- a list that is not changed any more -/
def frz (i : Nat) (S : SL) : SL := match ownAt S i with
  | some ds => S.set i (some (.dat (.lst ds)))
  | none => S
theorem RelS.frz {F : FH} {H : Hp} {w : Bx} {S : SL} {σ : L2.St} (R : RelS g F0 H0 B F w S σ H) (i : Nat) : ∃ F', RelS g F0 H0 B F' w (Y.frz i S) σ H := by
  unfold Y.frz
  cases ho : ownAt S i with
  | none => exact ⟨F, R⟩
  | some ds =>
    have hi := ownAt_some ho
    have hl : i < S.length := (List.getElem?_eq_some_iff.mp hi).1
    obtain ⟨v, e1, q, vs, e2, nF, nb, hp, rd⟩ := R.rel.sl i _ hi
    subst e2
    have n0 := R.fr i ds q hi e1
    have x := Ext.freeze R.ext n0 nF hp nb
    have sF : FSame F (F.upd q (.lst vs)) := FSame.upd nF.1
    refine ⟨F.upd q (.lst vs), ⟨⟨x.sub, x.bx, by rw [List.length_set]; exact R.rel.len, fun j s hj => ?_, fun j k es1 es2 u h1 h2 h3 h4 => ?_⟩, x, R.fl.trans sF, fun j es1 p h1 h2 => ?_⟩⟩
    · rw [List.getElem?_set] at hj
      by_cases e : i = j
      · subst e
        rw [if_pos rfl, if_pos hl] at hj; cases hj
        exact ⟨_, e1, .lst upd_same (rd.mono sF)⟩
      · rw [if_neg e] at hj
        obtain ⟨v, e3, e4⟩ := R.rel.sl j s hj
        refine ⟨v, e3, ?_⟩
        cases s with
        | dat d => exact DR.mono sF e4
        | own zs =>
          obtain ⟨q2, ws, e5, e6, e7, e8, e9⟩ := e4
          subst e5
          refine ⟨q2, ws, rfl, ?_, e7, e8, e9.mono sF⟩
          refine e6.upd fun z => e ?_
          subst z; exact R.rel.inj i j ds zs _ hi hj e1 e3
        | lam ls =>
          obtain ⟨p, ws, e5, e6, e7⟩ := e4
          exact ⟨p, ws, e5, sF.fz _ _ e6, e7.keep sF.fz fun a z nb na hc => ⟨hc, na⟩⟩
        | cls c => exact e4
        | ins c fs =>
          obtain ⟨C, ws, e5, hc, n1, n2, b1, b2, g1, g2, e9⟩ := e4
          have d1 : g.me ≠ q := fun z => by rw [z, hp] at g1; cases g1
          have d2 : g.md ≠ q := fun z => by rw [z, hp] at g2; cases g2
          exact ⟨C, ws, e5, hc, n1.upd d1, n2.upd d2, b1, b2, g1, g2, e9.mono sF⟩
    · rw [List.getElem?_set] at h1 h2
      by_cases e : i = j
      · rw [if_pos e] at h1; split at h1 <;> cases h1
      · by_cases e2 : i = k
        · rw [if_pos e2] at h2; split at h2 <;> cases h2
        · rw [if_neg e] at h1; rw [if_neg e2] at h2; exact R.rel.inj j k es1 es2 u h1 h2 h3 h4
    · rw [List.getElem?_set] at h1
      by_cases e : i = j
      · rw [if_pos e] at h1; split at h1 <;> cases h1
      · rw [if_neg e] at h1; exact R.fr j es1 p h1 h2
def sFrz (i : Nat) (m : SM) : SM := fun S w => m (frz i S) w
theorem ds_frz (i : Nat) (h : DS X g E F0 H0 st m) : DS X g E F0 H0 st (sFrz i m) := by
  obtain ⟨t, p, r⟩ := h.run
  refine ⟨t, p, fun N σ H F S w B R h => ?_⟩
  obtain ⟨F', R'⟩ := R.frz i
  exact r N σ H F' _ w B R' h
/-- len(xs) of a list that is still changed -/
def eLenO (i : Nat) : EM := fun S w => match ownAt S i with
  | some ds => .ok (.int (ds.length : Int)) w
  | none => .bad
theorem de_lenO (i : Nat) {x : Str} {px : Pos} (hK : g.K = X.K) (hm : X.mg "len" = none) (hN : X.N[i]? = some x := by rfl) (hv : Vis X.env.scope x := by first | exact Or.inl rfl | exact Or.inr (Or.inl rfl) | exact Or.inr (Or.inr rfl)) (hg : Gl X "len" := by rfl) (hd : (x == ("__debug__" : Str)) = false := by decide)
    (hcd : (x == ("__classdict__" : Str)) = false := by decide) (he : starEach [.Name x px] X.env = (false, eval (.Name x px) X.env) :: starEach [] X.env := by rfl) (hpl : (backTo pos (starEach [] X.env)).any (·.1) = false := by rfl) : DE X g E (.Call (.Name "len" p) [.Name x px] [] pos) (eLenO i) := by
  refine ⟨_, pe_callB call_len hg hm PySem.boot_len (pa_cons (pe_var hN hv hd hcd) pa_nil he) (by decide) (by decide) he hpl, fun σ H Q F S w R h => ?_⟩
  unfold eLenO at h
  cases ho : ownAt S i with
  | none => rw [ho] at h; exact h.elim
  | some ds =>
    rw [ho] at h
    obtain ⟨v, e1, q, vs, e2, nF, nb, hp, rd⟩ := R.sl i _ (ownAt_some ho)
    subst e2
    refine ⟨_, e1, _, _, rfl, .inl ⟨vs, .inl (.inl hp), rfl⟩, ?_⟩
    rw [rd.length]
    exact h _ H F R.ex (.int _)
/-- xs[k] of such a list -/
def eIxO (i : Nat) (f : EM) : EM := fun S w => match ownAt S i with
  | some ds => (f S w).bind fun k w1 => match k with
    | .int j => R.ofO (atI ds j) w1
    | _ => .bad
  | none => .bad
theorem de_ixO (i : Nat) {x : Str} {px : Pos} (hK : g.K = X.K) (hb : DE X g E b fb) (hN : X.N[i]? = some x := by rfl) (hv : Vis X.env.scope x := by first | exact Or.inl rfl | exact Or.inr (Or.inl rfl) | exact Or.inr (Or.inr rfl)) (hd : (x == ("__debug__" : Str)) = false := by decide)
    (hcd : (x == ("__classdict__" : Str)) = false := by decide) (hs : PlainIx b := by exact fun _ _ => rfl) : DE X g E (.Subscript (.Name x px) b pos) (eIxO i fb) := by
  obtain ⟨tb, pb, rb⟩ := hb.run
  refine ⟨_, pe_ix ix_list (pe_var hN hv hd hcd) pb hs, fun σ H Q F S w R h => ?_⟩
  unfold eIxO at h
  cases ho : ownAt S i with
  | none => rw [ho] at h; exact h.elim
  | some ds =>
    rw [ho] at h
    have hi := ownAt_some ho
    obtain ⟨v, e1, q, vs, e2, nF, nb, hp, rd⟩ := R.sl i _ hi
    subst e2
    refine ⟨_, e1, rb σ H _ F S w R (PostG.imp (PostG.bind h) fun k w1 _ h1 y H1 F1 x1 r1 => ?_)⟩
    obtain ⟨v2, e3, q2, vs2, e4, nF2, _, hp2, rd2⟩ := (R.ext x1).sl i _ hi
    rw [e1] at e3; cases e3; cases e4
    cases r1 with
    | int j =>
      obtain ⟨z, hz, q3⟩ := post_ofO h1
      obtain ⟨u, e5, e6⟩ := rd2.atI hz
      exact ⟨_, vs2, j, u, rfl, rfl, .inl (.inl hp2), e5, q3 _ H1 F1 x1 e6⟩
    | _ => exact h1.elim
def forLoop (gm : GM) (body : SM) : List D → SL → Bx → RS
  | [], S, w => .nx S w
  | d :: ds, S, w => match gm d S with
    | none => .bad
    | some S1 => match body S1 w with
      | .nx S2 w2 => forLoop gm body ds S2 w2
      | .ct S2 w2 => forLoop gm body ds S2 w2
      | .bk S2 w2 => .nx S2 w2
      | r => r
def sFor (fi : AM) (gm : GM) (body : SM) : SM := fun S w => (fi S w).to S fun ds w1 => forLoop gm body ds S w1
theorem ds_for {tg iter : Expr} {body : List Stmt} {fi : AM} {gm : GM} {ns : List Nat} (hp : PassesOwn (model X.prog X.w) X.A X.env X.xe) (hc : X.calm = true) (hi : DI X g E tg iter fi) (hg : DG X g tg ns gm) (hb : DSs X g E F0 H0 body m)
    (hq : PassesOwn (model X.prog X.w) X.A X.env X.xe → X.calm = true → ∀ (wi : TI) (g : TG) (tb : TS), PI X tg iter wi → PG X tg g → PSs X body tb → PS X (.For tg iter body [] pos) (tFor wi g tb) := by exact fun hp hc _ _ _ h1 h2 h3 => ps_for hp hc h1 h2 h3) : DS X g E F0 H0 (.For tg iter body [] pos) (sFor fi gm m) := by
  obtain ⟨wi, pi, ri⟩ := hi.run
  obtain ⟨tg', pg, rg⟩ := hg.run
  obtain ⟨tb, pb, rb⟩ := hb.run
  refine ⟨_, hq hp hc _ _ _ pi pg pb, fun N σ H F S w B R h => ?_⟩
  refine ri σ H _ F S w R.rel (PostG.imp (PostS.to R h) fun ds w1 _ h1 J H1 F1 x1 yl => ?_)
  have sB : FSame B F1 := R.fl.trans x1.ff
  have R1 : RelS g F0 H0 F1 F1 w1 S σ H1 := { R.ext' x1 with fl := FSame.refl F1 }
  refine ⟨fun i k σ2 H2 => ∃ F2 S2 w2, RelS g F0 H0 F1 F2 w2 S2 σ2 H2 ∧ i + k = ds.length ∧ PostS g F0 H0 B E N (forLoop gm m (ds.drop i) S2 w2), ⟨ds.length, F1, S, w1, R1, by omega, h1⟩, fun i k σ2 H2 hW => ?_⟩
  obtain ⟨F2, S2, w2, R2, hik, hpost⟩ := hW
  have lower : ∀ {F S w σ H}, RelS g F0 H0 F1 F w S σ H → RelS g F0 H0 B F w S σ H := fun r => { r with fl := sB.trans r.fl }
  cases hd : ds[i]? with
  | none =>
    have hle : ds.length ≤ i := List.getElem?_eq_none_iff.mp hd
    rw [List.drop_eq_nil_of_le hle] at hpost
    have hie : i = ds.length := by omega
    exact .inl ⟨hie ▸ yl.stop F2 H2 R2.fl R2.rel.sub, hpost σ2 H2 F2 (lower R2)⟩
  | some d =>
    obtain ⟨hlt, hde⟩ := List.getElem?_eq_some_iff.mp hd
    obtain ⟨hgo, hyl⟩ := yl.go i d F2 H2 R2.fl R2.rel.sub hd
    rw [List.drop_eq_getElem_cons hlt, hde] at hpost
    refine .inr ⟨hgo, fun σ3 H3 => ∃ F3 S3 w3, RelS g F0 H0 F1 F3 w3 S3 σ3 H3 ∧ PostS g F0 H0 B E N (forLoop gm m (ds.drop (i + 1)) S3 w3), fun σ3 H3 hN => ?_, fun x H3 hx => ?_⟩
    · obtain ⟨F3, S3, w3, b1, b3⟩ := hN
      exact ⟨k - 1, by omega, F3, S3, w3, b1, by omega, b3⟩
    · have item : ∃ F3, Ext g F2 H2 F3 H3 w2 ∧ DR g F3 x d := by
        rcases hyl x H3 hx with ⟨e1, r1⟩ | ⟨T, xs, es, e1, nT, e2, r1, e3⟩
        · subst e1; exact ⟨F2, Ext.refl R2.rel.sub R2.rel.bx, r1⟩
        · subst e1 e2 e3
          exact ⟨_, Ext.lay R2.rel.sub R2.rel.bx nT, .tup (.inl (.inl upd_same)) (r1.mono (Ext.lay R2.rel.sub R2.rel.bx nT).ff)⟩
      obtain ⟨F3, x3, rx⟩ := item
      unfold forLoop at hpost
      cases hm : gm d S2 with
      | none => rw [hm] at hpost; exact hpost.elim
      | some S3 =>
        rw [hm] at hpost
        have R3 := R2.ext' x3
        refine rg x σ2 H3 _ F3 S2 w2 d S3 R3.rel rx hm fun σ3 Rl hw => ?_
        refine rb _ σ3 H3 F3 S3 w2 F1 (R3.tgt hg hm Rl hw) ?_
        cases hbd : m S3 w2 with
        | nx S4 w4 => simp only [hbd] at hpost; exact fun σ4 H4 F4 R4 => ⟨F4, S4, w4, R4, hpost⟩
        | ct S4 w4 => simp only [hbd] at hpost; exact fun σ4 H4 F4 R4 => ⟨F4, S4, w4, R4, hpost⟩
        | bk S4 w4 => simp only [hbd] at hpost; exact fun σ4 H4 F4 R4 => hpost σ4 H4 F4 (lower R4)
        | rt d w4 => simp only [hbd] at hpost; exact hpost
        | err S4 c fs w4 => simp only [hbd] at hpost; exact fun σ4 H4 F4 R4 => hpost σ4 H4 F4 (lower R4)
        | bad => simp only [hbd] at hpost; exact hpost
end
def startS (n : Nat) (ds : List D) : SL := ds.map (fun d => some (.dat d)) ++ List.replicate (n - ds.length) none
def runF (k n : Nat) (body : SM) : List D → Bx → R D := fun ds w => if ds.length = k then (match body (startS n ds) w with
  | .nx _ w1 => .ok .non w1
  | .rt d w1 => .ok d w1
  | .err _ c fs w1 => .err c fs w1
  | _ => .bad) else .bad
section
variable {P : Program} {w : World} {K : PySem.W.Frag} {mg : Str → Option Value} {base : Heap} {cls : CT}
theorem rel_start {g : G} {F : FH} {H : Hp} {w : Bx} {vs : List V} {ds : List D} {N : List Str} (s : Same F H) (b : BxOk g F w H) (r : DRs g F vs ds) : RelS g F H F F w (startS N.length ds) (start N vs) H := by
  have key : ∀ (i : Nat) (x : SV), (startS N.length ds)[i]? = some (some x) → ∃ d v, x = .dat d ∧ (start N vs)[i]? = some (some v) ∧ DR g F v d := fun i x hx => by
    unfold startS at hx
    unfold L2.start
    rw [List.getElem?_append] at hx ⊢
    simp only [List.length_map] at hx ⊢
    rw [r.length]
    by_cases hi : i < ds.length
    · rw [if_pos hi] at hx ⊢
      rw [List.getElem?_map] at hx ⊢
      obtain ⟨d, hd, e⟩ := Option.map_eq_some_iff.mp hx
      cases e
      obtain ⟨v, hv, rv⟩ := r.get hd
      exact ⟨d, v, rfl, by rw [hv]; rfl, rv⟩
    · rw [if_neg hi, List.getElem?_replicate] at hx
      split at hx <;> cases hx
  refine ⟨⟨s, b, ?_, fun i x hx => ?_, fun i j ds1 ds2 v h1 => ?_⟩, Ext.refl s b, FSame.refl F, fun i ds1 p h1 => ?_⟩
  · unfold startS L2.start
    simp [r.length]
  · obtain ⟨d, v, rfl, h1, h2⟩ := key i x hx
    exact ⟨v, h1, h2⟩
  · obtain ⟨d, _, e, _⟩ := key i _ h1; cases e
  · obtain ⟨d, _, e, _⟩ := key i _ h1; cases e
/-- the code object of a def -/
def CodeIs (K : PySem.W.Frag) (f : Addr) (cdv : Value) : Prop := ∃ oc od fd osl, K.lookup f = some ⟨oc, od, .func fd, osl⟩ ∧ fd.code = cdv
theorem okC {x qual : Str} {st : Stmt} {f : Addr} {fd : FuncData} {N ps : List Str} {k : Nat} {sp : Sp} (F : Fun K x qual st f fd) (S : FnScope N ps (defScope st)) (ln : ∀ vs H Q E, sp vs H Q E → vs.length = ps.length)
    (hb : ∀ (cdv : Value), CodeIs K f cdv → ∀ (A : Around) (outer : List Env) (s : Shared) (H : Hp) (vs : List V) (Q : VK) (E : XK), Room k (A.deeper (envOfC qual (defScope st) s.heap.objs.size f cdv)) → sp vs H Q E → ∃ t, PSs (cxOf (L2N.CX P w) P w K mg base N qual (defScope st) f cdv A outer s H E) (defBody st) t ∧ t { nx := fun _ H' => Q .non H', rt := Q } (start N vs) H) :
    FnOk P w K mg base (L2N.CX P w) (k + 1) f fd ps sp := by
  obtain ⟨oc, od, kV, dc, pm, an, cv, ct, sl, rfl, lk, hcd⟩ := F.ex
  exact fn_of lk hcd S ln fun A outer s H vs Q E hr h => hb cv ⟨_, _, _, _, lk, rfl⟩ A outer s H vs Q E hr h
theorem okXN {x qual : Str} {st : Stmt} {f : Addr} {fd : FuncData} {N ps : List Str} {k : Nat} {sp : Sp} (F : Fun K x qual st f fd) (S : FnScope N ps (defScope st)) (ln : ∀ vs H Q E, sp vs H Q E → vs.length = ps.length)
    (hb : ∀ (cdv : Value) (A : Around) (outer : List Env) (s : Shared) (H : Hp) (vs : List V) (Q : VK) (E : XK), Room k (A.deeper (envOfC qual (defScope st) s.heap.objs.size f cdv)) → sp vs H Q E → ∃ t, PSs (cxOf (L2N.CX P w) P w K mg base N qual (defScope st) f cdv A outer s H E) (defBody st) t ∧ t { nx := fun _ H' => Q .non H', rt := Q } (start N vs) H) :
    FnOk P w K mg base (L2N.CX P w) (k + 1) f fd ps sp := okC F S ln fun cdv _ => hb cdv
theorem cal_of {x : Str} {st : Stmt} {f : Addr} {fd : FuncData} {N ps : List Str} {k : Nat} {m : List D → Bx → R D} {body : SM} (F : Fun K x x st f fd) (S : FnScope N ps (defScope st)) (hmg : mg x = some (.ref f)) (hb : Binds K fd ps [])
    (hbody : ∀ (cdv : Value), CodeIs K f cdv → ∀ (A : Around) (outer : List Env) (s : Shared) (H : Hp) (E : XK) (bx : BQ) (F0 : FH), Room k (A.deeper (envOfC x (defScope st) s.heap.objs.size f cdv)) →
      DSs (cxOf (L2N.CX P w) P w K mg base N x (defScope st) f cdv A outer s H E) ⟨K, cls, bx⟩ (kE E) F0 H (defBody st) body)
    (hm : ∀ ds w, m ds w ≠ .bad → runF ps.length N.length body ds w = m ds w) : Cal P w K mg base cls x (k + 1) ps.length m := by
  refine ⟨f, fd, ps, okC F S (fun vs H Q E h => h.1) (fun cdv hcv A outer s H vs Q E hr h => ?_), hmg, F.kp, hb⟩
  obtain ⟨hl, bx, F0, ds, w0, s1, b1, rd, hp⟩ := h
  obtain ⟨t, pt, rt⟩ := (hbody cdv hcv A outer s H E bx F0 hr).run
  refine ⟨t, pt, rt _ (start N vs) H F0 (startS N.length ds) w0 F0 (rel_start s1 b1 rd) ?_⟩
  have hnb : m ds w0 ≠ .bad := fun e => by rw [e] at hp; exact hp
  have e := hm ds w0 hnb
  rw [← e] at hp
  unfold runF at hp
  rw [if_pos (by rw [← rd.length]; exact hl)] at hp
  cases hbd : body (startS N.length ds) w0 with
  | nx S1 w1 => simp only [hbd] at hp; exact fun σ' H' F' R' => hp .non H' F' R'.ext .non
  | rt d w1 => simp only [hbd] at hp; exact hp
  | bk S1 w1 => simp only [hbd] at hp; exact hp.elim
  | ct S1 w1 => simp only [hbd] at hp; exact hp.elim
  | err S1 c fs w1 => simp only [hbd] at hp; exact fun σ' H' F' R' cl a vs n k l r => hp cl a vs H' F' R'.ext n k l r
  | bad => simp only [hbd] at hp; exact hp
end
end Y
namespace Y
open PySem PySem.Spec PyProof.Rows L2
theorem u65 {k : Nat} {A : Around} (r : Room k A) : A.units + 65 < cLine := by have := r.un; omega
theorem u64 {k : Nat} {A : Around} (r : Room k A) : A.units + 64 < cLine := r.units
def bxGet (w : Bx) : Int → Option D
  | 0 => some (.lst (w.cells.map .int))
  | 1 => some (.int (w.ix : Int))
  | 2 => some (.int w.big)
  | 3 => some (.int w.mark)
  | _ => none
def bxPut (w : Bx) (k : Int) (d : D) : Option Bx := match d with
  | .int i => if k = 1 then (if 0 ≤ i then some { w with ix := i.toNat } else none)
    else if k = 2 then (if 0 ≤ i then some { w with big := i } else none)
    else if k = 3 then (if 0 ≤ i ∧ i < 2147483647 then some { w with mark := i } else none) else none
  | _ => none
def isBox (S : SL) (i : Nat) : Bool := match S[i]? with
  | some (some (.dat .box)) => true
  | _ => false
theorem isBox_at {S : SL} {i : Nat} (h : isBox S i = true) : S[i]? = some (some (.dat .box)) := by
  unfold isBox at h
  split at h
  · assumption
  · cases h
def eBx (i : Nat) (k : Int) : EM := fun S w => if isBox S i then R.ofO (bxGet w k) w else .bad
section
variable {X : Cx} {g : G} {E : EK} {F0 : FH} {H0 : Hp} {B : FH} {e a b c : Expr} {es : List Expr} {pos p p2 : Pos} {fa fb fc f : EM} {fs : AM} {m : SM}
theorem drs_ints {F : FH} : ∀ ns : List Int, DRs g F (ns.map V.int) (ns.map D.int)
  | [] => .nil
  | n :: ns => .cons (.int n) (drs_ints ns)
theorem de_bx (i : Nat) (k : Int) {x : Str} {px pk : Pos} {j : Nat} (hK : g.K = X.K) (hN : X.N[i]? = some x := by rfl) (hv : Vis X.env.scope x := by first | exact Or.inl rfl | exact Or.inr (Or.inl rfl) | exact Or.inr (Or.inr rfl)) (hd : (x == ("__debug__" : Str)) = false := by decide)
    (hcd : (x == ("__classdict__" : Str)) = false := by decide) (hs : PlainIx (.Constant (.int k) j pk) := by exact fun _ _ => rfl) : DE X g E (.Subscript (.Name x px) (.Constant (.int k) j pk) pos) (eBx i k) := by
  refine ⟨_, pe_ix ix_list (pe_var hN hv hd hcd) pe_int hs, fun σ H Q F S w R h => ?_⟩
  unfold eBx at h
  by_cases hb : isBox S i = true
  · rw [if_pos hb] at h
    obtain ⟨v, e1, e2⟩ := R.sl i _ (isBox_at hb)
    cases e2
    obtain ⟨c, h1, h2⟩ := R.bx.at_
    obtain ⟨z, hz, q⟩ := post_ofO h
    refine ⟨_, e1, ?_⟩
    have hsq : SqL X.K H g.bx [.ref c, .int (w.ix : Int), .int w.big, .int w.mark] := .inl (.inl h1)
    unfold bxGet at hz
    split at hz
    · cases hz; exact ⟨_, _, _, _, rfl, rfl, hsq, rfl, q _ H F R.ex (.lst h2 (drs_ints _))⟩
    · cases hz; exact ⟨_, _, _, _, rfl, rfl, hsq, rfl, q _ H F R.ex (.int _)⟩
    · cases hz; exact ⟨_, _, _, _, rfl, rfl, hsq, rfl, q _ H F R.ex (.int _)⟩
    · cases hz; exact ⟨_, _, _, _, rfl, rfl, hsq, rfl, q _ H F R.ex (.int _)⟩
    · cases hz
  · rw [if_neg hb] at h; exact h.elim
def sBx (i : Nat) (k : Int) (f : EM) : SM := fun S w => (f S w).to S fun d w1 => if isBox S i then (match bxPut w1 k d with
  | some w2 => .nx S w2
  | none => .bad) else .bad
theorem BxOk.reb {F : FH} {H : Hp} {w w' : Bx} {xs : List V} (b : BxOk g F w H) (h : ∃ c, upd H g.bx (.lst xs) g.bx = some (.lst [.ref c, .int (w'.ix : Int), .int w'.big, .int w'.mark]) ∧ F c = some (.lst (w'.cells.map V.int))) (h1 : 0 ≤ w'.big) (h2 : 0 ≤ w'.mark) (h3 : w'.mark < 2147483647) (h4 : w'.cells.length ≤ 63) (hs : w'.st = w.st := by rfl) : BxOk g F w' (upd H g.bx (.lst xs)) := by
  have kx : ∀ a o, (∀ vs, o ≠ .lst vs) → H a = some o → upd H g.bx (.lst xs) a = some o := fun a o n q => by
    rw [upd_ne (fun e => ?_)]
    · exact q
    · obtain ⟨c, z, _⟩ := b.at_
      rw [e, z] at q; cases q; exact n _ rfl
  refine ⟨h, b.no, h1, h2, h3, h4, fun i c q => ?_, by rw [hs]; exact b.adl, b.inj, Tabs.keep b.tabs (fun a o n _ _ q => kx a o n q), b.ntb⟩
  rw [hs] at q
  obtain ⟨a, e1, e2, e3, e4⟩ := b.cel i c q
  exact ⟨a, e1, e2, e3, e4.keep (FSame.refl F) (upd_ne e3) fun b x q => kx b _ (fun _ z => by cases z) q⟩
/-- the box alone turns -/
theorem RelS.box {F : FH} {H : Hp} {w w' : Bx} {S : SL} {σ : L2.St} {xs : List V} (R : RelS g F0 H0 B F w S σ H) (b : BxOk g F w' (upd H g.bx (.lst xs))) : RelS g F0 H0 B F w' S σ (upd H g.bx (.lst xs)) := by
  have hF : ∀ a o, F a = some o → a ≠ g.bx := fun a o h e => by rw [e, R.rel.bx.no] at h; cases h
  have sub : Same F (upd H g.bx (.lst xs)) := fun a o h => by rw [upd_ne (hF a o h)]; exact R.rel.sub a o h
  refine ⟨⟨sub, b, R.rel.len, fun i s hs => ?_, R.rel.inj⟩, ⟨R.ext.ff, fun a o n nc nt h => ?_, fun a h => R.ext.dom a (upd_dom h), R.ext.new, R.ext.nad, sub, b, fun a od u h => ?_⟩, R.fl, R.fr⟩
  · obtain ⟨v, e1, e2⟩ := R.rel.sl i s hs
    refine ⟨v, e1, ?_⟩
    cases s with
    | dat d => exact e2
    | own ds =>
      obtain ⟨q, vs, e3, e4, e5, e6, e7⟩ := e2
      exact ⟨q, vs, e3, e4, e5, by rw [upd_ne e5]; exact e6, e7⟩
    | lam ls =>
      obtain ⟨p, vs, e3, e4, e5⟩ := e2
      obtain ⟨c0, hb0, _⟩ := R.rel.bx.at_
      exact ⟨p, vs, e3, e4, e5.upd hb0 fun _ z => by cases z⟩
    | cls c => exact e2
    | ins c fs =>
      obtain ⟨C, vs, e3, hc, n1, n2, b1, b2, g1, g2, e7⟩ := e2
      exact ⟨C, vs, e3, hc, n1, n2, b1, b2, by rw [upd_ne b1]; exact g1, by rw [upd_ne b2]; exact g2, e7⟩
  · rw [upd_ne n]; exact R.ext.hh a o n nc nt h
  · obtain ⟨c0, hb0, _⟩ := R.rel.bx.at_
    have := R.ext.frz a od u h
    rw [upd_ne fun e => by rw [e, hb0] at this; cases this]; exact this
theorem ds_bx (i : Nat) (k : Int) {x : Str} {px pk tpos : Pos} {j : Nat} (ha : DE X g E a f) (hN : X.N[i]? = some x := by rfl) (hv : Vis X.env.scope x := by first | exact Or.inl rfl | exact Or.inr (Or.inl rfl) | exact Or.inr (Or.inr rfl)) (hd : (x == ("__debug__" : Str)) = false := by decide)
    (hcd : (x == ("__classdict__" : Str)) = false := by decide)
    (hq : ∀ (to ti te : TE), PE X (.Name x px) to → PE X (.Constant (.int k) j pk) ti → PE X a te → PS X (.Assign [.Subscript (.Name x px) (.Constant (.int k) j pk) tpos] a pos) (tAsg te (gSub to ti rSetL)) := by exact fun _ _ _ h1 h2 h3 => ps_asg h3 (pg_sub h1 h2 set_list)) :
    DS X g E F0 H0 (.Assign [.Subscript (.Name x px) (.Constant (.int k) j pk) tpos] a pos) (sBx i k f) := by
  obtain ⟨t, pa, r⟩ := ha.run
  refine ⟨_, hq _ _ _ (pe_var hN hv hd hcd) pe_int pa, fun N σ H F S w B R h => ?_⟩
  refine r σ H _ F S w R.rel (PostG.imp (PostS.to R h) fun d w1 _ h1 v H1 F1 x1 r1 => ?_)
  have R1 := R.ext' x1
  by_cases hb : isBox S i = true
  · rw [if_pos hb] at h1
    obtain ⟨u, e1, e2⟩ := R1.rel.sl i _ (isBox_at hb)
    cases e2
    obtain ⟨c, hB, hC⟩ := R1.rel.bx.at_
    have b1 := R1.rel.bx
    refine ⟨_, e1, ?_⟩
    cases r1 with
    | int n =>
      unfold bxPut at h1
      by_cases k1 : k = 1
      · subst k1
        simp only [if_true] at h1
        by_cases hn : 0 ≤ n
        · simp only [if_pos hn] at h1
          refine ⟨_, _, 1, 1, rfl, rfl, hB, rfl, h1 _ _ F1 (R1.box (b1.reb ⟨c, ?_, hC⟩ (b1.big0) (b1.mk0) (b1.mk1) (b1.nc)))⟩
          rw [upd_same]
          simp only [List.set]
          rw [show ((n.toNat : Nat) : Int) = n by omega]
        · simp only [if_neg hn] at h1; exact h1.elim
      · simp only [if_neg k1] at h1
        by_cases k2 : k = 2
        · subst k2
          simp only [if_true] at h1
          by_cases hn : 0 ≤ n
          · simp only [if_pos hn] at h1
            exact ⟨_, _, 2, 2, rfl, rfl, hB, rfl, h1 _ _ F1 (R1.box (b1.reb ⟨c, upd_same, hC⟩ (hn) (b1.mk0) (b1.mk1) (b1.nc)))⟩
          · simp only [if_neg hn] at h1; exact h1.elim
        · simp only [if_neg k2] at h1
          by_cases k3 : k = 3
          · subst k3
            simp only [if_true] at h1
            by_cases hn : 0 ≤ n ∧ n < 2147483647
            · simp only [if_pos hn] at h1
              exact ⟨_, _, 3, 3, rfl, rfl, hB, rfl, h1 _ _ F1 (R1.box (b1.reb ⟨c, upd_same, hC⟩ (b1.big0) (hn.1) (hn.2) (b1.nc)))⟩
            · simp only [if_neg hn] at h1; exact h1.elim
          · simp only [if_neg k3] at h1; exact h1.elim
    | _ => exact h1.elim
  · rw [if_neg hb] at h1; exact h1.elim
end
end Y
namespace Y
open PySem PySem.Spec PyProof.Rows L2
structure Glb (K : PySem.W.Frag) (mg : Str → Option Value) (x : Str) (d : D) : Prop where
  ex : ∃ v u, mg x = some u ∧ RelV v u ∧ ∀ (g : G) (F : FH), g.K = K → DR g F v d
theorem de_glb {X : Cx} {g : G} {E : EK} {x : Str} {d : D} {pos : Pos} (hK : g.K = X.K) (h : Glb X.K X.mg x d) (hg : Gl X x := by rfl) (hdb : (x == ("__debug__" : Str)) = false := by decide) : DE X g E (.Name x pos) (eC d) := by
  obtain ⟨v, u, h1, h2, h3⟩ := h.ex
  exact de_glob h1 h2 (fun F => h3 g F hK) hg hdb
theorem glb_str {K : PySem.W.Frag} {mg : Str → Option Value} {x s : Str} {t : Tok} (h : mg x = some (.str s t)) : Glb K mg x (.str s) := ⟨.str s, _, h, ⟨t, rfl⟩, fun _ _ _ => .str s⟩
def Def (K : PySem.W.Frag) (mg : Str → Option Value) (x : Str) (st : Stmt) (ps : List Str) : Prop := ∃ f fd, Fun K x x st f fd ∧ mg x = some (.ref f) ∧ Binds K fd ps []
def spOpen (K : PySem.W.Frag) : Sp := fun vs H Q _ => ∃ (a : Addr) (ns : List Int), vs = [.ref a] ∧ SqL K H a (ns.map V.int) ∧ ns.length ≤ 63 ∧
  ∀ (b c : Addr) (mk : Int) (H' : Hp), Same H H' → b ≠ c → H' b = some (.lst [.ref c, .int 0, .int 0, .int mk]) → H' c = some (.lst (ns.map V.int)) → 0 ≤ mk → mk < 2147483647 → Q (.ref b) H'
def spLaw (K : PySem.W.Frag) (tb : List (Addr × Str)) : Sp := fun vs H Q _ => ∃ (a : Addr) (ns : List Int), vs = [.ref a] ∧ SqL K H a (ns.map V.int) ∧ ns.length ≤ 63 ∧ LamX.Tabs tb H ∧ ∀ H', Q (.bl true) H'
def tSemS (K : PySem.W.Frag) (cls : CT) (cl : List (Str × Addr)) (E : EK) (m : SM) : TS := fun N σ H => ∃ bx F0 H0 B F S w, bx.2.2.2 = cl ∧ RelS ⟨K, cls, bx⟩ F0 H0 B F w S σ H ∧ PostS ⟨K, cls, bx⟩ F0 H0 B E N (m S w)
section
variable {P : Program} {w : World} {K : PySem.W.Frag} {mg : Str → Option Value} {base : Heap} {cls : CT}
theorem pss_sem {X : Cx} {E : EK} {sts : List Stmt} {m : SM} {cl : List (Str × Addr)} (h : ∀ bx F0 H0, bx.2.2.2 = cl → DSs X ⟨K, cls, bx⟩ E F0 H0 sts m) : PSs X sts (tSemS K cls cl E m) :=
  ⟨fun pins s σ H N I ⟨bx, F0, H0, B, F, S, w, hcl, R, q⟩ => let ⟨_, p, r⟩ := (h bx F0 H0 hcl).run; p.run pins s σ H N I (r N σ H F S w B R q)⟩
/-- the slots at the box's making: the script is not looked at again -/
def lawS (n : Nat) : SL := none :: some (.dat .box) :: List.replicate (n - 2) none
theorem lawS_get {n i : Nat} {sv : SV} (h : (lawS n)[i]? = some (some sv)) : i = 1 ∧ sv = .dat .box := by
  cases i with
  | zero => simp [lawS] at h
  | succ i =>
    cases i with
    | zero => simp [lawS] at h; exact ⟨rfl, h.symm⟩
    | succ i =>
      have h2 : (List.replicate (n - 2) (none : Option SV))[i]? = some (some sv) := h
      rw [List.getElem?_replicate] at h2
      split at h2 <;> cases h2
theorem law_of {x y : Str} {st fst : Stmt} {f : Addr} {fd : FuncData} {N : List Str} {k : Nat} {body : SM} {rest : List Stmt} (F : Fun K x x st f fd) (S : FnScope N [y] (defScope st)) (hN : ∃ N', N = y :: "_law_box" :: N')
    (hst : defBody st = fst :: rest)
    (hfirst : ∀ (cdv : Value) (A : Around) (outer : List Env) (s : Shared) (H : Hp) (E : XK), Room k (A.deeper (envOfC x (defScope st) s.heap.objs.size f cdv)) →
      PS (cxOf (L2N.CX P w) P w K mg base N x (defScope st) f cdv A outer s H E) fst (tAsg (tCall (spOpen K) [] E0 (tCons (tVar 0) tNil)) (gName 1)))
    (hbody : ∀ (cdv : Value), CodeIs K f cdv → ∀ (A : Around) (outer : List Env) (s : Shared) (H : Hp) (E : XK) (bx : BQ) (F0 : FH) (H0 : Hp), bx.2.2.2 = (envOfC x (defScope st) s.heap.objs.size f cdv).cells → Room k (A.deeper (envOfC x (defScope st) s.heap.objs.size f cdv)) →
      DSs (cxOf (L2N.CX P w) P w K mg base N x (defScope st) f cdv A outer s H E) ⟨K, cls, bx⟩ (kE E) F0 H0 rest body)
    (hm : ∀ w : Bx, w.st = [] → ∃ w', body (lawS N.length) w = .rt (.bl true) w') : FnOk P w K mg base (L2N.CX P w) (k + 1) f fd [y] (spLaw K cls.tb) := by
  obtain ⟨N', rfl⟩ := hN
  refine okC F S (fun vs H Q E h => ?_) (fun cdv hcv A outer s H vs Q E hr h => ?_)
  · obtain ⟨a, ns, rfl, _⟩ := h; rfl
  · obtain ⟨a, ns, rfl, hS, hl, ht, q⟩ := h
    rw [hst]
    refine ⟨_, pss_cons (hfirst cdv A outer s H E hr) (pss_sem (cl := (envOfC x (defScope st) s.heap.objs.size f cdv).cells) fun bx F0 H0 hcl => hbody cdv hcv A outer s H E bx F0 H0 hcl hr), ?_⟩
    refine ⟨.ref a, rfl, a, ns, rfl, hS, hl, fun b c mk H1 sm nbc hb hc m0 m1 => ?_⟩
    have hsub : Same (fun z => if z = c then some (HO.lst (ns.map V.int)) else none) H1 := fun z o h => by
      by_cases e : z = c
      · simp only [if_pos e] at h; rw [e, hc]; exact h
      · simp only [if_neg e] at h; cases h
    have hbx : BxOk ⟨K, cls, (b, 0, 0, (envOfC x (defScope st) s.heap.objs.size f cdv).cells)⟩ ⟨fun z => if z = c then some (HO.lst (ns.map V.int)) else none, fun _ => none⟩ ⟨ns, 0, 0, mk, []⟩ H1 :=
      ⟨⟨c, hb, by simp⟩, by simp [nbc], Int.le_refl 0, m0, m1, hl, fun i c h => by simp at h, (fun i a h => nomatch h), (fun i j a h => nomatch h), ht.ext sm, fun a ps h => by
        simp only at h
        split at h <;> cases h⟩
    refine ⟨(b, 0, 0, (envOfC x (defScope st) s.heap.objs.size f cdv).cells), _, H1, _, _, lawS (y :: "_law_box" :: N').length, ⟨ns, 0, 0, mk, []⟩, rfl, ⟨⟨hsub, hbx, ?_, fun i sv hsv => ?_, fun i j ds ds2 v h1 => ?_⟩, Ext.refl hsub hbx, FSame.refl _, fun i ds p h1 => ?_⟩, ?_⟩
    · simp [lawS, L2.start]
    · obtain ⟨rfl, rfl⟩ := lawS_get hsv
      exact ⟨.ref b, by simp [L2.start], DR.box (g := ⟨K, cls, (b, 0, 0, (envOfC x (defScope st) s.heap.objs.size f cdv).cells)⟩)⟩
    · cases (lawS_get h1).2
    · cases (lawS_get h1).2
    · obtain ⟨w', e⟩ := hm ⟨ns, 0, 0, mk, []⟩ rfl
      rw [e]
      intro v H' F' x r
      cases r
      exact q H'
end
theorem cx_false {P : Program} {w : World} {l : List Env} {H : Hp} {s : Shared} {e : Value} {s' : Shared} (h : L2N.CX P w l H s (fun _ _ _ => False) e s') : False := by
  obtain ⟨_, _, _, _, _, _, _, _, _, _, _, _, z⟩ := h
  exact z
theorem cut63 {ns : List Int} (h : ns.length ≤ 63) : cutV (ns.map V.int) none (some 63) = ns.map V.int := by
  unfold cutV
  rw [HT.sIx_none, show HT.sIx (ns.map V.int).length (ns.map V.int).length (some 63) = min 63 (ns.map V.int).length from HT.sIx_nat _ _ 63]
  rw [List.length_map, List.drop_zero, Nat.sub_zero]
  apply List.take_of_length_le
  rw [List.length_map]
  omega
end Y
namespace Y
open PySem PySem.Spec PyProof.Rows L2
def ItEt (x : Str) : It := ⟨fun i _ => i < x.cps.size, fun i H v H' => ∃ T c, v = .ref T ∧ H T = none ∧ x.cps[i]? = some c ∧ H' = upd H T (.tup [.int (i : Nat), .str ⟨#[c]⟩]), fun i _ => i = x.cps.size⟩
theorem turn_et {P : Program} {w : World} {K : PySem.W.Frag} {elts : List Expr} {kk : Nat} {tpos : Pos} (x : Str) (t : Tok) (e it : Addr) :
    Turn P w K (.Tuple elts kk tpos) (ItEt x) [e, it] e (fun i h => (∃ old, IsEnum h e it ((i : Nat) : Int) old) ∧ h.IsStrIter it (strIterType x) x t i ∧ e ≠ it) where
  mem := List.mem_cons_self ..
  obj := fun i h st b hb => by
    obtain ⟨⟨old, he⟩, ⟨o, ho, _, hd⟩, _⟩ := st
    rcases List.mem_cons.mp hb with z | z
    · subst z; exact ⟨_, he, fun v q => nomatch q⟩
    · cases List.mem_singleton.mp z; exact ⟨o, ho, fun v q => by rw [hd] at q; cases q⟩
  keep := fun i h h' st k => by
    obtain ⟨⟨old, he⟩, ⟨o, ho, r⟩, hne⟩ := st
    exact ⟨⟨old, k e (by simp) _ he⟩, ⟨o, k it (by simp) _ ho, r⟩, hne⟩
  item := by
    intro X hP hw hK hc i pins s σ H E I hf st hg
    subst hP hw hK
    obtain ⟨⟨old, he⟩, hit, hne⟩ := st
    have hel : e < s.heap.objs.size := Heap.lt_size he
    have hil : it < s.heap.objs.size := by obtain ⟨_, q, _⟩ := hit; exact Heap.lt_size q
    have hne' : e ∉ [it] := fun z => hne (List.mem_singleton.mp z)
    refine wpAny_pyNext_enum_itemD (Draws.text (A := X.A.in1) (I.ok.hd hc) it x t) he hit hg hne hne' fun v h1 tk hv ho hit1 hT hsz hk => ?_
    obtain ⟨c, u, hcx, rfl⟩ := hv
    refine ⟨_, rfl, wpAny_letOwnedTupleGo_enum (s := { s with heap := h1, toks := tk + 1 }) ho fun h2 he2 sb => ?_⟩
    have hT2 := (sb.2 s.heap.objs.size (Nat.ne_of_gt hel)).trans hT
    have out : ∀ b, b ∉ [e, it] → b ≠ e ∧ b ≠ it := fun b hb => ⟨fun z => hb (by simp [z]), fun z => hb (by simp [z])⟩
    have new : ObjOk X.prog X.w (upd H s.heap.objs.size (.tup [.int (i : Nat), .str ⟨#[c]⟩])) h2 s.heap.objs.size (.tup [.int (i : Nat), .str ⟨#[c]⟩]) :=
      ⟨by show 2 ≤ sizeLine; decide, [.int i tk, .str ⟨#[c]⟩ u], .cons ⟨_, rfl⟩ (.cons ⟨_, rfl⟩ .nil), ⟨_, hT2, rfl, _, rfl⟩⟩
    have I1 : L2.Inv X pins σ (upd H s.heap.objs.size (.tup [.int (i : Nat), .str ⟨#[c]⟩])) { s with heap := h2, toks := tk + 1 } :=
      I.turnedNew (ch := [e, it]) (fun b ob hb q => (sb.2 b (out b hb).1).trans (hk b ob (out b hb).1 (out b hb).2 q)) hf (Nat.le_refl _) new
    refine ⟨.ref s.heap.objs.size, _, I1, rfl, ⟨_, c, rfl, I.hok.fresh (Nat.le_refl _), hcx, rfl⟩, ⟨⟨_, by rw [show ((i + 1 : Nat) : Int) = (i : Int) + 1 by omega]; exact he2⟩, ?_, hne⟩, fun b hb => ?_⟩
    · obtain ⟨o, q, r⟩ := hit1
      exact ⟨o, (sb.2 it (Ne.symm hne)).trans q, r⟩
    · have hb' : b < s.heap.objs.size := by
        rcases List.mem_cons.mp hb with z | z
        · rw [z]; exact hel
        · rw [List.mem_singleton.mp z]; exact hil
      rw [upd_ne (Nat.ne_of_lt hb')]
      exact (hf b hb).1
  done := by
    intro X hP hw hK hc i pins s σ H E I hf st hg
    subst hP hw hK
    obtain ⟨⟨old, he⟩, hit, hne⟩ := st
    have hg : i = x.cps.size := hg
    subst hg
    obtain ⟨f0, f1, f2, f3, f4, f5⟩ := hf it (by simp)
    exact wpAny_pyNext_enum_endD (Draws.text (A := X.A.in1) (I.ok.hd hc) it x t) he hit fun h' eb => ⟨rfl, I.turned (t' := s.toks) (fun b o hb q => eb b o hb q) f0 f1 f3 f4 f5⟩
  self := fun A i s Q E st h => let ⟨⟨_, he⟩, _⟩ := st; wpAny_pyIter_enum he h
section
variable {X : Cx} {g : G} {E : EK} {a : Expr} {pos p : Pos} {fa : EM}
theorem yld_et {F : FH} (z : Str) : Yld g F (ItEt z) (numbered (signs z)) := by
  refine ⟨fun i d F2 H2 s1 s2 hd => ?_, fun F2 H2 s1 s2 => ?_⟩
  · obtain ⟨d', hd', rfl⟩ := num_get hd
    unfold signs at hd'
    rw [List.getElem?_map] at hd'
    obtain ⟨c, hc, rfl⟩ := Option.map_eq_some_iff.mp hd'
    have hc' : z.cps[i]? = some c := by simpa using hc
    refine ⟨(Array.getElem?_eq_some_iff.mp hc').1, fun x H3 hy => ?_⟩
    obtain ⟨T, c2, e1, n, e2, e3⟩ := hy
    rw [hc'] at e2; cases e2
    exact .inr ⟨T, _, _, e1, n, e3, .cons (.int _) (.cons (.str _) .nil), rfl⟩
  · show (numbered (signs z)).length = z.cps.size
    rw [num_len]
    simp [signs]
def enumOf : D → Option (List D)
  | .str z => some (numbered (signs z))
  | .lst ds => some (numbered ds)
  | _ => none
def iEnumD (f : EM) : AM := fun S w => (f S w).bind fun d w1 => R.ofO (enumOf d) w1
theorem di_enum {elts : List Expr} {kk : Nat} {tpos : Pos} (hK : g.K = X.K) (hm : X.mg "enumerate" = none) (ha : DE X g E a fa) (hg : Gl X "enumerate" := by rfl) (hs : starEach [a] X.env = [(false, eval a X.env)] := by rfl) :
    DI X g E (.Tuple elts kk tpos) (.Call (.Name "enumerate" p) [a] [] pos) (iEnumD fa) := by
  obtain ⟨ta, pa, ra⟩ := ha.run
  have pA : PA X [a] (tCons ta tNil) := pa_cons pa pa_nil (by rw [hs]; rfl)
  refine ⟨fun σ H Rq => tCons ta tNil σ H fun vs H1 => ∃ x, vs = [x] ∧ ((∃ a xs, x = .ref a ∧ SqL X.K H1 a xs ∧ Rq (Ite X.K a) H1) ∨ ∃ z, x = .str z ∧ Rq (ItEt z) H1), ⟨fun pins s σ H Rq I h => ?_⟩, fun σ H Rq F S w R h => ?_⟩
  · refine Call_ (ld_blt I hg hm boot_enumerate (PyProof.Rows.callWith_type1 (thn (pA.run pos pins s σ H _ I h) fun us s1 ⟨vs, H1, I1, r1, x, ex, q1⟩ => ?_) hs rfl))
    subst ex
    obtain ⟨u, rfl, ru⟩ := vals1 r1
    have two : ∀ b, b ∈ [s1.heap.objs.size + 1, s1.heap.objs.size] → FpOk X pins H1 b := fun b hb => by
      have hle : s1.heap.objs.size ≤ b := by
        rcases List.mem_cons.mp hb with z | z
        · omega
        · have := List.mem_singleton.mp z; omega
      exact I1.fpOk hle (I1.hok.fresh hle)
    rcases q1 with ⟨a, xs, rfl, hq, q⟩ | ⟨z, rfl, q⟩
    · cases ru
      obtain ⟨its, rv, p', hz⟩ := I1.list hq
      exact call_enumerate_list p'.isList fun h' he hit hsz hk => wpAny_pyIter_enum he ⟨_, _, _, _, H1, rfl, I1.kept (t' := s1.toks) hk, turn_enum a (s1.heap.objs.size + 1) s1.heap.objs.size, ⟨⟨.none, he⟩, hit, Nat.succ_ne_self _⟩, two, q⟩
    · obtain ⟨t, rfl⟩ := ru
      exact call_enumerate_str fun h' he hit hsz hk => wpAny_pyIter_enum he ⟨_, _, _, _, H1, rfl, I1.kept (t' := s1.toks) hk, turn_et z t (s1.heap.objs.size + 1) s1.heap.objs.size, ⟨⟨.none, he⟩, hit, Nat.succ_ne_self _⟩, two, q⟩
  · refine ra σ H _ F S w R (PostG.imp (PostG.bind h) fun d w1 _ h1 v H1 F1 x1 r1 => ?_)
    obtain ⟨ds, hz, q⟩ := post_ofO' h1
    rw [← hK]
    cases r1 with
    | lst h r => cases hz; exact ⟨_, rfl, .inl ⟨_, _, rfl, .inl (.inl (x1.sub _ _ h)), q _ H1 F1 x1 (yld_enum h r)⟩⟩
    | str z => cases hz; exact ⟨_, rfl, .inr ⟨_, rfl, q _ H1 F1 x1 (yld_et z)⟩⟩
    | _ => cases hz
end
end Y
namespace Y
open PySem PySem.Spec PyProof.Rows L2
def tabGet (t : List (Str × Str)) (z : Str) : Option Str := (t.find? fun p => p.1 == z).map (·.2)
def mTab (t : List (Str × Str)) : D → Option D
  | .str z => (tabGet t z).map D.str
  | _ => none
def mTabD (t : List (Str × Str)) : D → D → Option D
  | .str z, d => some (match tabGet t z with | some v => .str v | none => d)
  | _, _ => none
section
variable {X : Cx} {g : G} {E : EK} {b c : Expr} {fb fc : EM} {x : Str} {p pos apos : Pos} {t : List (Str × Str)}
end
end Y
namespace Y
open PySem PySem.Spec PyProof.Rows L2
section
variable {X : Cx} {g : G} {E : EK} {e : Expr} {f : EM} {te : TE} {k : Nat} {p1 p2 p3 pos : Pos}
end
end Y
namespace Y
open PySem PySem.Spec PyProof.Rows L2
theorem u1 {k : Nat} {A : Around} (r : Room k A) : A.units + 1 < cLine := by have := r.un; omega
section
variable {X : Cx} {g : G} {E : EK} {e a b c : Expr} {pos p apos : Pos} {fa fb fc f : EM}
def keyOf : D → Option Key
  | .int i => some (Sum.inl i)
  | .str s => some (Sum.inr s)
  | _ => none
def isDct : D → Bool
  | .dct _ => true
  | _ => false
def dGet (kvs : List (Key × D)) (k : Key) : Option D := (kvs.find? fun kv => decide (kv.1 = k)).map (·.2)
def mDGet2 (d k z : D) : Option D := match d with
  | .dct kvs => (keyOf k).map fun k => (dGet kvs k).getD z
  | _ => none
def eDGet2 (fa fb fc : EM) : EM := fun S w => (fa S w).bind fun d w1 => if isDct d then (fb S w1).bind fun k w2 => (fc S w2).bind fun z w3 => R.ofO (mDGet2 d k z) w3 else .bad
end
end Y
namespace Y
open PySem PySem.Spec PyProof.Rows L2
def isObj (c m : Str) : D → Bool
  | .obj c' fs => decide (c' = c) && (fs.lookup m).isNone
  | _ => false
def isCls (c : Str) : D → Bool
  | .obj c' _ => decide (c' = c)
  | _ => false
section
variable {g : G} {F : FH}
theorem DR.isObj {c m : Str} {v : V} {d : D} (r : DR g F v d) (h : Y.isObj c m d = true) : ∃ a C dx fs, v = .ref a ∧ g.cls c = some C ∧ F a = some (.ins C dx fs) ∧ fs.lookup m = none := by
  cases r with
  | obj h1 h2 h3 rf =>
    unfold Y.isObj at h
    rw [Bool.and_eq_true, decide_eq_true_iff] at h
    obtain ⟨rfl, hm⟩ := h
    exact ⟨_, _, _, _, rfl, h3, h1, rf.lookup_none (Option.isNone_iff_eq_none.mp hm)⟩
  | _ => cases h
theorem DR.isCls {c : Str} {v : V} {d : D} (r : DR g F v d) (h : Y.isCls c d = true) : ∃ a C dx fs, v = .ref a ∧ g.cls c = some C ∧ F a = some (.ins C dx fs) := by
  cases r with
  | obj h1 h2 h3 rf =>
    have h : _ = c := of_decide_eq_true h
    subst h
    exact ⟨_, _, _, _, rfl, h3, h1⟩
  | _ => cases h
end
structure MthK (P : Program) (w : World) (K : PySem.W.Frag) (mg : Str → Option Value) (base : Heap) (cls : CT) (c m : Str) (k n : Nat) (mm : List D → Bx → R D) : Prop where
  ex : ∃ (C f : Addr) (fd : FuncData) (ps : List Str), cls c = some C ∧ Cls K C ∧ Meth K C m f ∧ FnOk P w K mg base (L2N.CX P w) k f fd ps (spM K cls n mm) ∧ Binds K fd ps []
def eMeth (c m : Str) (n : Nat) (mm : List D → Bx → R D) (fo : EM) (fs : AM) : EM := fun S w => (fo S w).bind fun d w1 => if isObj c m d then (fs S w1).bind fun ds w2 => if ds.length + 1 = n then mm (d :: ds) w2 else .bad else .bad
section
variable {X : Cx} {g : G} {E : EK} {e e2 a b o : Expr} {es : List Expr} {pos p p2 apos : Pos} {fa fb fo f : EM} {fs : AM} {x c m : Str} {k n : Nat} {mm : List D → Bx → R D}
theorem meth_run {E : XK} {C : Addr} {ta : TE} {t : TA} (hK : g.K = X.K) (hc : g.cls c = some C) (ro : ∀ σ H Q F S w, Rel g F w S σ H → Post g F H Q E (fo S w) → ta σ H Q) (ra : ∀ σ H Q F S w, Rel g F w S σ H → PostA g F H Q E (fs S w) → t σ H Q) :
    ∀ σ H Q F S w, Rel g F w S σ H → Post g F H Q E (eMeth c m n mm fo fs S w) → tMeth C m (spM X.K g.cls n mm) [] E ta t σ H Q := by
  intro σ H Q F S w R h
  refine ro σ H _ F S w R (PostG.imp (PostG.bind h) fun d w1 hd h1 v H1 F1 x1 r1 => ?_)
  clear hd
  by_cases hd : isObj c m d = true
  · rw [if_pos hd] at h1
    obtain ⟨q, C', dx, vs, rfl, hc', hq, hl⟩ := r1.isObj hd
    obtain rfl : C' = C := Option.some.inj (hc'.symm.trans hc)
    refine ⟨q, dx, vs, rfl, x1.sub _ _ hq, hl, ra σ H1 _ F1 S w1 (R.ext x1) (PostG.ext x1 (PostG.bind h1) fun ds w2 h2 us H2 F2 x2 r2 => ?_)⟩
    by_cases hn : ds.length + 1 = n
    · rw [if_pos hn] at h2
      show spM X.K g.cls n mm (.ref q :: (us ++ [])) H2 Q E
      rw [List.append_nil, ← hK]
      exact ⟨by rw [List.length_cons, r2.length]; exact hn, g.bq, F2, d :: ds, w2, x2.sub, x2.bx, .cons (r1.mono x2.ff) r2, Post.of (x1.trans x2) h2⟩
    · rw [if_neg hn] at h2; exact h2.elim
  · rw [if_neg hd] at h1; exact h1.elim
theorem de_meth0 {E : XK} (hK : g.K = X.K) (M : MthK X.prog X.w X.K X.mg X.base g.cls c m k n mm) (hr : Room k X.A) (hx : Passes (L2N.CX X.prog X.w) X E) (ho : DE X g (kE E) o fo)
    (ht : ∀ (sp : Sp) (C f : Addr) (fd : FuncData) (ps : List Str) (ta : TE), Cls X.K C → Meth X.K C m f → FnOk X.prog X.w X.K X.mg X.base (L2N.CX X.prog X.w) k f fd ps sp → Binds X.K fd ps [] → PE X o ta → Room k X.A → Passes (L2N.CX X.prog X.w) X E → PE X (.Call (.Attribute o m apos) [] [] pos) (tMeth C m sp [] E ta tNil) := by exact fun _ _ _ _ _ _ c hm F hb po hr hx => pe_meth0 po c hm F hr hb .nil hx) :
    DE X g (kE E) (.Call (.Attribute o m apos) [] [] pos) (eMeth c m n mm fo aNil) := by
  obtain ⟨C, f, fd, ps, hc, cl, hm, F, hb⟩ := M.ex
  obtain ⟨ta, pa, ra⟩ := ho.run
  exact ⟨_, ht _ C f fd ps ta cl hm F hb pa hr hx, meth_run hK hc ra fun σ H Q F S w R h => h [] H F R.ex .nil⟩
structure FldK (K : PySem.W.Frag) (cls : CT) (c f : Str) : Prop where
  ex : ∃ C, cls c = some C ∧ Cls K C ∧ NoAttr K C f
def fldD (c f : Str) : D → Option D
  | .obj c' fs => if c' = c then fs.lookup f else none
  | _ => none
theorem de_fld {f : Str} (M : FldK X.K g.cls c f) (ho : DE X g E o fo) (hb : attributeBase o f X.env (eval o X.env) = eval o X.env := by rfl) : DE X g E (.Attribute o f pos) (e1 (fldD c f) fo) := by
  obtain ⟨C, hc, cl, na⟩ := M.ex
  obtain ⟨ta, pa, ra⟩ := ho.run
  refine ⟨_, pe_fld pa hb, fun σ H Q F S w R h => ?_⟩
  refine ra σ H _ F S w R (PostG.imp (PostG.bind h) fun d w1 hd h1 v H1 F1 x1 r1 => ?_)
  clear hd
  obtain ⟨z, hz, q⟩ := post_ofO h1
  cases r1 with
  | @obj a' C' dx' c' fs' ds' h4 h2 h3 rf =>
    have hy : (if c' = c then ds'.lookup f else none) = some z := hz
    clear hz
    by_cases ec : c' = c
    · rw [if_pos ec] at hy
      subst ec
      obtain rfl := Option.some.inj (h3.symm.trans hc)
      obtain ⟨u, e1, e2⟩ := rf.lookup hy
      exact ⟨_, _, _, _, u, rfl, x1.sub _ _ h4, cl, na, e1, q _ _ _ x1 e2⟩
    · rw [if_neg ec] at hy; cases hy
  | _ => cases hz
end
end Y
namespace Y
open PySem PySem.Spec PyProof.Rows L2
structure GEq (g g' : G) : Prop where
  k : g.K = g'.K
  c : g.cls = g'.cls
  b : g.bx = g'.bx
theorem GEq.symm {g g' : G} (e : GEq g g') : GEq g' g := ⟨e.k.symm, e.c.symm, e.b.symm⟩
mutual
theorem DR.to {g g' : G} (e : GEq g g') {F : FH} : ∀ {v : V} {d : D}, DR g F v d → DR g' F v d
  | _, _, .non => .non
  | _, _, .bl b => .bl b
  | _, _, .int i => .int i
  | _, _, .str s => .str s
  | _, _, .lst h r => .lst h (DRs.to e r)
  | _, _, .tup h r => .tup (e.k ▸ h) (DRs.to e r)
  | _, _, .box => by rw [e.b]; exact .box
  | _, _, .obj h h2 h3 r => .obj h h2 (by rw [← e.c]; exact h3) (DRf.to e r)
  | _, _, .dct h r => .dct h (DRk.to e r)
  | _, _, .cel h => .cel h
theorem DRs.to {g g' : G} (e : GEq g g') {F : FH} : ∀ {v : List V} {d : List D}, DRs g F v d → DRs g' F v d
  | _, _, .nil => .nil
  | _, _, .cons h r => .cons (DR.to e h) (DRs.to e r)
theorem DRf.to {g g' : G} (e : GEq g g') {F : FH} : ∀ {v : List (Str × V)} {d : List (Str × D)}, DRf g F v d → DRf g' F v d
  | _, _, .nil => .nil
  | _, _, .cons h r => .cons (DR.to e h) (DRf.to e r)
theorem DRk.to {g g' : G} (e : GEq g g') {F : FH} : ∀ {v : List (Key × V)} {d : List (Key × D)}, DRk g F v d → DRk g' F v d
  | _, _, .nil => .nil
  | _, _, .cons h r => .cons (DR.to e h) (DRk.to e r)
end
theorem CellOk.to {g g' : G} (e : GEq g g') {F : FH} {H : Hp} {a : Addr} {c : Cell} (h : CellOk g F H a c) : CellOk g' F H a c := by
  cases c with
  | lst ds => obtain ⟨vs, e1, r⟩ := h; exact ⟨vs, e1, r.to e⟩
  | dct ds => obtain ⟨vs, e1, r⟩ := h; exact ⟨vs, e1, r.to e⟩
  | obj c ds => obtain ⟨C, dx, vs, e1, e2, e3, r⟩ := h; exact ⟨C, dx, vs, e1, e2, by rw [← e.c]; exact e3, r.to e⟩
  | lck ds => obtain ⟨vs, od, e1, r⟩ := h; exact ⟨vs, od, e1, r.to e⟩
theorem BxOk.to {g g' : G} (e : GEq g g') {F : FH} {H : Hp} {w : Bx} (b : BxOk g F w H) : BxOk g' F w H :=
  ⟨by rw [← e.b]; exact b.at_, by rw [← e.b]; exact b.no, b.big0, b.mk0, b.mk1, b.nc, fun i c h => let ⟨a, h1, h2, h3, h4⟩ := b.cel i c h; ⟨a, h1, h2, by rw [← e.b]; exact h3, h4.to e⟩, b.adl, b.inj, by rw [← e.c]; exact b.tabs, b.ntb⟩
theorem Ext.to {g g' : G} (e : GEq g g') {F F' : FH} {H H' : Hp} {w : Bx} (x : Ext g F H F' H' w) : Ext g' F H F' H' w := ⟨x.ff, by rw [← e.b]; exact x.hh, x.dom, x.new, x.nad, x.sub, x.bx.to e, x.frz⟩
theorem PErr.to {g g' : G} (e : GEq g g') {F : FH} {H : Hp} {E : XK} {c : Str} {fs : List (Str × D)} {w : Bx} (p : PErr g F H E c fs w) : PErr g' F H E c fs w :=
  fun cl a vs H' F' x n k l r => p cl a vs H' F' (x.to e.symm) n (by rw [e.c]; exact k) l (r.to e.symm)
def nEq (n : Nat) : Nat → Bool := fun i => i == n
def nLe (n : Nat) : Nat → Bool := fun i => Nat.ble i n
def spI (K : PySem.W.Frag) (cls : CT) (c : Str) (n : Nat → Bool) (m : List D → Bx → R (List (Str × D))) : Sp := fun vs H Q E => ∃ (x dx C : Addr) (args : List V) (H0 : Hp) (bx : BQ) (F : FH) (ds : List D) (w : Bx),
  vs = .ref x :: args ∧ n args.length = true ∧ cls c = some C ∧ H0 x = none ∧ H0 dx = none ∧ dx ≠ x ∧ H = upd (upd H0 dx (.own x)) x (.ins C dx []) ∧ Same F H0 ∧ BxOk ⟨K, cls, bx⟩ F w H0 ∧ DRs ⟨K, cls, bx⟩ F args ds ∧
  PostG ⟨K, cls, bx⟩ F H0 E (fun fs w' => ∀ (H' : Hp) (F' : FH) (us : List (Str × V)), Ext ⟨K, cls, bx⟩ F H0 F' H' w' → F'.free x → F'.free dx → H' x = some (.ins C dx us) → H' dx = some (.own x) → DRf ⟨K, cls, bx⟩ F' us fs → Q .non H') (m ds w)
def startI (n : Nat) (c : Str) (ds : List D) : SL := some (.ins c []) :: startS (n - 1) ds
def endI (c : Str) : RS → R (List (Str × D))
  | .nx S w => match S with
    | some (.ins c' fs) :: _ => if c' = c then .ok fs w else .bad
    | _ => .bad
  | .err _ c fs w => .err c fs w
  | _ => .bad
def runI (c : Str) (k n : Nat) (body : SM) : List D → Bx → R (List (Str × D)) := fun ds w => if ds.length + 1 = k then endI c (body (startI n c ds) w) else .bad
/-- __init__'s start -/
theorem relI_start {K : PySem.W.Frag} {cls : CT} {b x dx C : Addr} {c y : Str} {F : FH} {H0 : Hp} {w : Bx} {vs : List V} {ds : List D} {N : List Str} (hc : cls c = some C) (nx : H0 x = none) (nd : H0 dx = none) (ne : dx ≠ x) (s : Same F H0) (bo : BxOk ⟨K, cls, (b, x, dx, [])⟩ F w H0) (r : DRs ⟨K, cls, (b, x, dx, [])⟩ F vs ds) :
    RelS ⟨K, cls, (b, x, dx, [])⟩ F H0 F F w (startI (y :: N).length c ds) (start (y :: N) (.ref x :: vs)) (upd (upd H0 dx (.own x)) x (.ins C dx [])) := by
  have x1 : Ext ⟨K, cls, (b, x, dx, [])⟩ F H0 F (upd H0 dx (.own x)) w := Ext.own s bo nd
  have nx1 : (upd H0 dx (.own x)) x = none := by rw [upd_ne ne.symm]; exact nx
  have x2 : Ext ⟨K, cls, (b, x, dx, [])⟩ F H0 F (upd (upd H0 dx (.own x)) x (.ins C dx [])) w := x1.trans (Ext.own x1.sub x1.bx nx1)
  have R0 := rel_start (N := N) x2.sub x2.bx r
  have hst : start (y :: N) (.ref x :: vs) = some (.ref x) :: start N vs := by simp [L2.start]
  refine ⟨⟨x2.sub, x2.bx, ?_, fun i sv hsv => ?_, fun i j ds1 ds2 v h1 h2 => ?_⟩, x2, FSame.refl F, fun i ds1 p h1 => ?_⟩
  · rw [hst]
    show (startS N.length ds).length + 1 = _
    rw [R0.rel.len]; rfl
  · rw [hst]
    cases i with
    | zero =>
      have : sv = .ins c [] := by
        have h : some (some (SV.ins c [])) = some (some sv) := hsv
        injection h with h; injection h with h; exact h.symm
      subst this
      refine ⟨.ref x, rfl, C, [], rfl, hc, free_of s bo nx, free_of s bo nd, not_box bo nx, not_box bo nd, upd_same, ?_, .nil⟩
      rw [upd_ne ne]; exact upd_same
    | succ i => exact R0.rel.sl i sv hsv
  · cases i with
    | zero => cases h1
    | succ i =>
      cases j with
      | zero => cases h2
      | succ j =>
        intro h3 h4
        rw [hst] at h3 h4
        exact congrArg (· + 1) (R0.rel.inj i j ds1 ds2 v h1 h2 h3 h4)
  · cases i with
    | zero => cases h1
    | succ i =>
      intro h2
      rw [hst] at h2
      exact x2.dom p (R0.fr i ds1 p h1 h2)
section
variable {P : Program} {w : World} {K : PySem.W.Frag} {mg : Str → Option Value} {base : Heap} {cls : CT}
theorem ini_run {X : Cx} {c : Str} {y : Str} {N : List Str} {n : Nat} {sts : List Stmt} {m : List D → Bx → R (List (Str × D))} {body : SM} {vs : List V} {H : Hp} {Q : VK} {E : XK}
    (hbody : ∀ (b x dx : Addr) (F0 : FH) (H0 : Hp), H0 x = none → DSs X ⟨K, cls, (b, x, dx, [])⟩ (kE E) F0 H0 sts body) (hm : ∀ ds w, m ds w ≠ .bad → runI c (n + 1) (y :: N).length body ds w = m ds w) (h : spI K cls c (nEq n) m vs H Q E) :
    ∃ t, PSs X sts t ∧ t { nx := fun _ H' => Q .non H', rt := Q } (start (y :: N) vs) H := by
  obtain ⟨x, dx, C, args, H0, bx, F, ds, w0, rfl, hl, hc, nx, nd, ne, rfl, s, bo, rd, hp⟩ := h
  have ge : GEq ⟨K, cls, bx⟩ ⟨K, cls, (bx.1, x, dx, [])⟩ := ⟨rfl, rfl, rfl⟩
  obtain ⟨t, pt, rt⟩ := (hbody bx.1 x dx F H0 nx).run
  refine ⟨t, pt, rt _ _ _ F _ w0 F (relI_start hc nx nd ne s (bo.to ge) (rd.to ge)) ?_⟩
  have hnb : m ds w0 ≠ .bad := fun e => by rw [e] at hp; exact hp
  have e := hm ds w0 hnb
  rw [← e] at hp
  unfold runI at hp
  rw [if_pos (by rw [← rd.length, beq_iff_eq.mp hl])] at hp
  cases hbd : body (startI (y :: N).length c ds) w0 with
  | nx S1 w1 =>
    rw [hbd] at hp
    intro σ' H' F' R'
    match S1, hp, R' with
    | some (.ins c' fs) :: S2, hp, R' =>
      have hq : PostG _ F H0 E _ (if c' = c then R.ok fs w1 else .bad) := hp
      clear hp
      by_cases ec : c' = c
      · rw [if_pos ec] at hq
        subst ec
        obtain ⟨v, e1, C', us, e2, hc', n1, n2, _, _, g1, g2, rf⟩ := R'.rel.sl 0 _ rfl
        obtain rfl : C' = C := Option.some.inj (hc'.symm.trans hc)
        exact hq H' F' us (R'.ext.to ge.symm) n1 n2 g1 g2 (rf.to ge.symm)
      · rw [if_neg ec] at hq; exact hq.elim
    | [], hp, R' => exact hp.elim
    | none :: S2, hp, R' => exact hp.elim
    | some (.dat _) :: S2, hp, R' => exact hp.elim
    | some (.own _) :: S2, hp, R' => exact hp.elim
  | err S1 c fs w1 => rw [hbd] at hp; exact fun σ' H' F' R' cl a vs n k l r => PErr.to ge hp cl a vs H' F' R'.ext n k l r
  | rt d w1 => rw [hbd] at hp; exact hp.elim
  | bk S1 w1 => rw [hbd] at hp; exact hp.elim
  | ct S1 w1 => rw [hbd] at hp; exact hp.elim
  | bad => rw [hbd] at hp; exact hp.elim
/-- a class whose __init__ does m -/
structure IniK (P : Program) (w : World) (K : PySem.W.Frag) (mg : Str → Option Value) (base : Heap) (cls : CT) (c : Str) (k : Nat) (n : Nat → Bool) (m : List D → Bx → R (List (Str × D))) : Prop where
  ex : ∃ (C f : Addr), mg c = some (.ref C) ∧ cls c = some C ∧ Mk K C f ∧ FnR P w K mg base (L2N.CX P w) k f (spI K cls c n m)
end
def eMake (c : Str) (n : Nat → Bool) (m : List D → Bx → R (List (Str × D))) (fs : AM) : EM := fun S w => (fs S w).bind fun ds w1 => if n ds.length = true then (m ds w1).bind fun fl w2 => .ok (.obj c fl) w2 else .bad
section
variable {X : Cx} {g : G} {E : EK} {e a b o : Expr} {es : List Expr} {pos p p2 apos : Pos} {fs : AM} {x c : Str} {k : Nat} {n : Nat → Bool} {m : List D → Bx → R (List (Str × D))}
theorem make_run {E : XK} {C : Addr} {t : TA} (hK : g.K = X.K) (hc : g.cls c = some C) (ra : ∀ σ H Q F S w, Rel g F w S σ H → PostA g F H Q E (fs S w) → t σ H Q) :
    ∀ σ H Q F S w, Rel g F w S σ H → Post g F H Q E (eMake c n m fs S w) → StX.tMakeR C (spI X.K g.cls c n m) E t σ H Q := by
  intro σ H Q F S w R h
  refine ra σ H _ F S w R (PostG.imp (PostG.bind h) fun ds w1 _ h1 vs H1 F1 x1 r1 => ?_)
  intro x dx nx nd ne
  by_cases hn : n ds.length = true
  · rw [if_pos hn] at h1
    rw [← hK]
    refine ⟨x, dx, C, vs, H1, g.bq, F1, ds, w1, rfl, by rw [r1.length]; exact hn, hc, nx, nd, ne, rfl, x1.sub, x1.bx, r1, PostG.ext x1 (PostG.bind h1) fun fl w2 h2 H2 F2 us x2 n1 n2 e1 e2 rf => ⟨rfl, ?_⟩⟩
    have x12 := x1.trans x2
    have bx1 : x ≠ g.bx := not_box x1.bx nx
    have bx2 : dx ≠ g.bx := not_box x1.bx nd
    have nx0 := x1.fresh nx
    have nd0 := x1.fresh nd
    have x3 : Ext g F H (F2.upd dx (.own x)) H2 w2 := Ext.freeze x12 nd0 n2 e2 bx2
    have n3 : (F2.upd dx (.own x)).free x := n1.upd ne.symm
    have x4 : Ext g F H ((F2.upd dx (.own x)).upd x (.ins C dx us)) H2 w2 := Ext.freeze x3 nx0 n3 e1 bx1
    have s2 : FSame F2 ((F2.upd dx (.own x)).upd x (.ins C dx us)) := (FSame.upd n2.1).trans (FSame.upd n3.1)
    exact h2 _ _ _ x4 (.obj upd_same (by show upd (upd F2.fz dx (.own x)) x (.ins C dx us) dx = _; rw [upd_ne ne]; exact upd_same) hc (rf.mono s2))
  · rw [if_neg hn] at h1; exact h1.elim
theorem de_make {E : XK} (hK : g.K = X.K) (M : IniK X.prog X.w X.K X.mg X.base g.cls c k n m) (hr : Room (k + 1) X.A) (hx : Passes (L2N.CX X.prog X.w) X E) (ha : DA X g (kE E) (e :: es) fs) (hg : Gl X c := by rfl) (hdb : (c == ("__debug__" : Str)) = false := by decide)
    (he : starEach (e :: es) X.env = (false, eval e X.env) :: starEach es X.env := by rfl) (hpl : (backTo pos (starEach es X.env)).any (·.1) = false := by rfl) : DE X g (kE E) (.Call (.Name c p) (e :: es) [] pos) (eMake c n m fs) := by
  obtain ⟨C, f, hmg, hc, Mk, F⟩ := M.ex
  obtain ⟨t, pt, rt⟩ := ha.run
  exact ⟨_, StX.pe_makeR Mk F hr hg hmg hx pt hdb he hpl, make_run hK hc rt⟩
end
def putD (f : Str) (v : D) : List (Str × D) → List (Str × D)
  | [] => [(f, v)]
  | (g, x) :: r => if g = f then (g, v) :: r else (g, x) :: putD f v r
theorem DRf.put {g : G} {F : FH} {f : Str} {v : V} {d : D} (r : DR g F v d) : ∀ {vs : List (Str × V)} {ds : List (Str × D)}, DRf g F vs ds → DRf g F (putF f v vs) (putD f d ds)
  | _, _, .nil => .cons r .nil
  | _, _, .cons (n := n) h t => by
    unfold putF putD
    by_cases e : n = f
    · rw [if_pos e, if_pos e]; exact .cons r t
    · rw [if_neg e, if_neg e]; exact .cons h (DRf.put r t)
theorem DRf.length {g : G} {F : FH} : ∀ {v : List (Str × V)} {d : List (Str × D)}, DRf g F v d → v.length = d.length
  | _, _, .nil => rfl
  | _, _, .cons _ r => congrArg (· + 1) r.length
def insAt (S : SL) (i : Nat) (c : Str) : Option (List (Str × D)) := match S[i]? with
  | some (some (.ins c' fs)) => if c' = c then some fs else none
  | _ => none
theorem insAt_some {S : SL} {i : Nat} {c : Str} {fs : List (Str × D)} (h : insAt S i c = some fs) : S[i]? = some (some (.ins c fs)) := by
  unfold insAt at h
  split at h
  · rename_i e
    split at h
    · rename_i ec; cases h; rw [e, ec]
    · cases h
  · cases h
def isIns : Option (Option SV) → Bool
  | some (some (.ins _ _)) => true
  | _ => false
def soleI (S : SL) (i : Nat) : Bool := (List.range S.length).all fun j => j == i || !isIns S[j]?
theorem soleI_ne {S : SL} {i j : Nat} {c : Str} {fs : List (Str × D)} (h : soleI S i = true) (hj : S[j]? = some (some (.ins c fs))) : j = i := by
  unfold soleI at h
  rw [List.all_eq_true] at h
  have := h j (List.mem_range.mpr (List.getElem?_eq_some_iff.mp hj).1)
  rw [hj] at this
  simpa [isIns] using this
def sFldI (i : Nat) (c f : Str) (fe : EM) : SM := fun S w => (fe S w).to S fun d w1 => match insAt S i c with
  | some fs => if fs.length < 1000 ∧ soleI S i = true then .nx (S.set i (some (.ins c (putD f d fs)))) w1 else .bad
  | none => .bad
section
variable {X : Cx} {g : G} {E : EK} {F0 : FH} {H0 : Hp} {B : FH} {e a b o : Expr} {es : List Expr} {pos p p2 apos : Pos} {fe : EM} {x c f : Str}
theorem RelS.mutI {F : FH} {H : Hp} {w : Bx} {S : SL} {σ : L2.St} {i : Nat} {us : List (Str × V)} {fs gs : List (Str × D)} {C : Addr} (R : RelS g F0 H0 B F w S σ H) (h0 : H0 g.me = none) (so : soleI S i = true) (hi : S[i]? = some (some (.ins c fs))) (hc : g.cls c = some C) (r : DRf g F us gs) :
    RelS g F0 H0 B F w (S.set i (some (.ins c gs))) σ (upd H g.me (.ins C g.md us)) := by
  have hl : i < S.length := (List.getElem?_eq_some_iff.mp hi).1
  obtain ⟨v, hs, C', ws, rfl, hc', n1, n2, b1, b2, g1, g2, _⟩ := R.rel.sl i _ hi
  have dm : g.md ≠ g.me := fun z => by rw [z, g1] at g2; cases g2
  have x : Ext g F0 H0 F (upd H g.me (.ins C g.md us)) w := Ext.mut R.ext h0 n1 b1 g1 (.inr (.inr ⟨_, _, _, rfl⟩))
  refine ⟨⟨x.sub, x.bx, by rw [List.length_set]; exact R.rel.len, fun j s hj => ?_, fun j k es1 es2 u h1 h2 h3 h4 => ?_⟩, x, R.fl, fun j es1 p h1 h2 => ?_⟩
  · rw [List.getElem?_set] at hj
    by_cases e : i = j
    · subst e
      rw [if_pos rfl, if_pos hl] at hj; cases hj
      exact ⟨_, hs, C, us, rfl, hc, n1, n2, b1, b2, upd_same, by rw [upd_ne dm]; exact g2, r⟩
    · rw [if_neg e] at hj
      obtain ⟨v, e1, e2⟩ := R.rel.sl j s hj
      refine ⟨v, e1, ?_⟩
      cases s with
      | dat d => exact e2
      | own zs =>
        obtain ⟨q2, ws, e3, e4, e5, e6, e7⟩ := e2
        exact ⟨q2, ws, e3, e4, e5, by rw [upd_ne fun z => by rw [z, g1] at e6; cases e6]; exact e6, e7⟩
      | lam ls =>
        obtain ⟨p, ws, e3, e4, e5⟩ := e2
        exact ⟨p, ws, e3, e4, e5.upd g1 fun _ z => by cases z⟩
      | cls c => exact e2
      | ins c2 fs2 => exact absurd (soleI_ne so hj).symm e
  · have key : ∀ (j : Nat) (zs : List D), (S.set i (some (.ins c gs)))[j]? = some (some (.own zs)) → S[j]? = some (some (.own zs)) := fun j zs h => by
      rw [List.getElem?_set] at h
      by_cases e : i = j
      · rw [if_pos e] at h; split at h <;> cases h
      · rw [if_neg e] at h; exact h
    exact R.rel.inj j k es1 es2 u (key j es1 h1) (key k es2 h2) h3 h4
  · rw [List.getElem?_set] at h1
    by_cases e : i = j
    · rw [if_pos e] at h1; split at h1 <;> cases h1
    · rw [if_neg e] at h1; exact R.fr j es1 p h1 h2
theorem ds_fldI (i : Nat) {px tpos : Pos} (M : FldK X.K g.cls c f) (h0 : H0 g.me = none) (ha : DE X g E a fe) (hN : X.N[i]? = some x := by rfl) (hv : Vis X.env.scope x := by first | exact Or.inl rfl | exact Or.inr (Or.inl rfl) | exact Or.inr (Or.inr rfl)) (hd : (x == ("__debug__" : Str)) = false := by decide)
    (hcd : (x == ("__classdict__" : Str)) = false := by decide) (hs : swapsWith a (some (.Attribute (.Name x px) f tpos)) pos.line X.env = pure false := by rfl) : DS X g E F0 H0 (.Assign [.Attribute (.Name x px) f tpos] a pos) (sFldI i c f fe) := by
  obtain ⟨C, hc, cl, na⟩ := M.ex
  obtain ⟨t, pa, r⟩ := ha.run
  refine ⟨_, ps_fld (pe_var hN hv hd hcd) pa hs, fun N σ H F S w B R h => ?_⟩
  refine r σ H _ F S w R.rel (PostG.imp (PostS.to R h) fun d w1 hd' h1 v H1 F1 x1 r1 => ?_)
  have R1 := R.ext' x1
  cases ho : insAt S i c with
  | none => rw [ho] at h1; exact h1.elim
  | some fl =>
    rw [ho] at h1
    have hi := insAt_some ho
    by_cases hl : fl.length < 1000 ∧ soleI S i = true
    · simp only [if_pos hl] at h1
      obtain ⟨u, e1, C', vs, e2, hc', n1, n2, b1, b2, g1, g2, rf⟩ := R1.rel.sl i _ hi
      subst e2
      obtain rfl : C' = C := Option.some.inj (hc'.symm.trans hc)
      exact ⟨_, e1, g.me, C', g.md, vs, rfl, g1, cl, na, by rw [rf.length]; exact hl.1, h1 _ _ F1 (R1.mutI h0 hl.2 hi hc (rf.put r1))⟩
    · simp only [if_neg hl] at h1; exact h1.elim
end
end Y
namespace Y
open PySem PySem.Spec PyProof.Rows L2
section
variable {X : Cx} {g : G} {E : EK} {e a b o : Expr} {es : List Expr} {pos p p2 apos : Pos} {fs : AM} {fa : EM} {x c : Str} {k : Nat} {n : Nat → Bool} {m : List D → Bx → R (List (Str × D))}
theorem pe_makeR0 {E : XK} {CX : CXT} {C f : Addr} {sp : Sp} (M : Mk X.K C f) (F : FnR X.prog X.w X.K X.mg X.base CX k f sp) (hr : Room (k + 1) X.A) (hg : Gl X x) (hm : X.mg x = some (.ref C)) (hx : Passes CX X E) (hdb : (x == ("__debug__" : Str)) = false := by decide) :
    PE X (.Call (.Name x p) [] [] pos) (StX.tMakeR C sp E tNil) := by
  refine ⟨fun pins s σ H Q I h => ?_⟩
  refine wpAny_Call_Name_kw (ld_glob I hg hm ?_ hdb)
  exact PySem.W.callWith_K0 (first := []) I.kIn M.kp (StX.run_makeR M F hr hx I .nil h)
theorem de_make0 {E : XK} (hK : g.K = X.K) (M : IniK X.prog X.w X.K X.mg X.base g.cls c k n m) (hr : Room (k + 1) X.A) (hx : Passes (L2N.CX X.prog X.w) X E) (hg : Gl X c := by rfl) (hdb : (c == ("__debug__" : Str)) = false := by decide) : DE X g (kE E) (.Call (.Name c p) [] [] pos) (eMake c n m aNil) := by
  obtain ⟨C, f, hmg, hc, Mk, F⟩ := M.ex
  exact ⟨_, pe_makeR0 Mk F hr hg hmg hx hdb, make_run hK hc fun σ H Q F S w R h => h [] H F R.ex .nil⟩
def tStar1 (K : PySem.W.Frag) (te : TE) : TA := fun σ H Q => te σ H fun y H1 => ∃ a xs, y = V.ref a ∧ (SqT K H1 a xs ∨ SqL K H1 a xs) ∧ Q xs H1
theorem pe_makeS {E : XK} {CX : CXT} {C f : Addr} {sp : Sp} {te : TE} {sp_ : Pos} (M : Mk X.K C f) (F : FnR X.prog X.w X.K X.mg X.base CX k f sp) (hr : Room (k + 1) X.A) (hg : Gl X x) (hm : X.mg x = some (.ref C)) (hx : Passes CX X E) (he : PE X e te) (hdb : (x == ("__debug__" : Str)) = false := by decide)
    (hst : starEach [.Starred e sp_] X.env = [(true, eval e X.env)] := by rfl) : PE X (.Call (.Name x p) [.Starred e sp_] [] pos) (StX.tMakeR C sp E (tStar1 X.K te)) := by
  refine ⟨fun pins s σ H Q I h => ?_⟩
  refine wpAny_Call_Name_kw (ld_glob I hg hm ?_ hdb)
  refine PySem.W.callWith_S (h₀ := X.base) I.ok.mod.kin M.kp (thn (he.run pins s σ H _ I h) fun v s1 ⟨y, H1, I1, ry, a, xs, ey, hxs, q⟩ => ?_) hst
  subst ey
  obtain rfl : v = Value.ref a := ry
  exact StX.star_any I1 hxs fun us s2 I2 rv => ⟨I2.kIn, StX.run_makeR M F hr hx I2 rv q⟩
def seqD : D → Option (List D)
  | .lst ds => some ds
  | .tup ds => some ds
  | _ => none
def aStar (f : EM) : AM := fun S w => (f S w).bind fun d w1 => R.ofO (seqD d) w1
theorem de_makeS {E : XK} {sp_ : Pos} (hK : g.K = X.K) (M : IniK X.prog X.w X.K X.mg X.base g.cls c k n m) (hr : Room (k + 1) X.A) (hx : Passes (L2N.CX X.prog X.w) X E) (ha : DE X g (kE E) e fa) (hg : Gl X c := by rfl) (hdb : (c == ("__debug__" : Str)) = false := by decide)
    (hst : starEach [.Starred e sp_] X.env = [(true, eval e X.env)] := by rfl) : DE X g (kE E) (.Call (.Name c p) [.Starred e sp_] [] pos) (eMake c n m (aStar fa)) := by
  obtain ⟨C, f, hmg, hc, Mk, F⟩ := M.ex
  obtain ⟨ta, pa, ra⟩ := ha.run
  refine ⟨_, pe_makeS Mk F hr hg hmg hx pa hdb hst, make_run hK hc fun σ H Q F S w R h => ?_⟩
  refine ra σ H _ F S w R (PostG.imp (PostG.bind h) fun d w1 hd h1 v H1 F1 x1 r1 => ?_)
  clear hd
  obtain ⟨z, hz, q⟩ := post_ofO' h1
  rw [← hK]
  cases r1 with
  | lst h r => cases hz; exact ⟨_, _, rfl, .inr (.inl (.inl (x1.sub _ _ h))), q _ _ _ x1 r⟩
  | tup h r => cases hz; exact ⟨_, _, rfl, .inl (same_T x1.sub h), q _ _ _ x1 r⟩
  | _ => cases hz
end
theorem cxUpN {P : Program} {w : World} : StX.CXUp (L2N.CX P w) := by
  rintro outer s H s2 H2 E e s' un kp ho ⟨a, B, H', cls, d, ea, fl, hok, ub, na, os, ag, he⟩
  refine ⟨a, B, H', cls, d, ea, fl, hok, ⟨fun b o q n hb => ub.keep b o (kp b o q) (un.free b o q n (by simp)) hb, fun b o q hb => ub.slot b o (kp b o q) hb, fun b o q n => ub.free b o (kp b o q) (un.free b o q n (by simp)),
    fun b o q hb => ub.there b o (kp b o q) hb, fun b xs q => ub.tups b xs (un.tups b xs q), fun b o xs q => ub.frzs b o xs (un.frzs b o xs q), fun b ps q => ?_⟩, na, os.trans ho, ag, he⟩
  obtain ⟨m1, e1⟩ := un.tbls b ps q
  obtain ⟨m2, e2⟩ := ub.tbls b _ e1
  exact ⟨m1 ++ m2, by rw [e2, Array.append_assoc]⟩
section
variable {P : Program} {w : World} {K : PySem.W.Frag} {mg : Str → Option Value} {base : Heap} {cls : CT}
theorem ini_ofV {x qual c y z : Str} {st : Stmt} {C f : Addr} {fd : FuncData} {N : List Str} {k nmax : Nat} {m : List D → Bx → R (List (Str × D))} {body : SM} (hmg : mg c = some (.ref C)) (hc : cls c = some C) (M : Mk K C f) (F : Fun K x qual st f fd) (S : FnScope (y :: N) ([y] ++ [z]) (defScope st))
    (hb : ∀ (kV doc pm cdv ct : Value) (an : Option Addr) (us rest : List Value), us.length = [y].length → bindArgs (PySem.W.fnOf x qual (defArgs st) (defBody st) (defScope st) .none kV doc pm an cdv ct) ⟨us ++ rest, []⟩ = (newTuple rest >>= fun t => pure ([y].zip us ++ [(z, t)])))
    (hz : nmax ≤ sizeLine)
    (hbody : ∀ (cdv : Value) (A : Around) (outer : List Env) (s : Shared) (H : Hp) (E : XK) (b x dx : Addr) (F0 : FH) (H0 : Hp), Room k (A.deeper (envOfC qual (defScope st) s.heap.objs.size f cdv)) → H0 x = none →
      DSs (cxOf (L2N.CX P w) P w K mg base (y :: N) qual (defScope st) f cdv A outer s H E) ⟨K, cls, (b, x, dx, [])⟩ (kE E) F0 H0 (defBody st) body)
    (hm : ∀ ds w, m ds w ≠ .bad → runI c 2 (y :: N).length body [.tup ds] w = m ds w) : IniK P w K mg base cls c (k + 1) (nLe nmax) m := by
  obtain ⟨oc, od, kV, doc, pm, an, cdv, ct, osl, rfl, lk, hcd⟩ := F.ex
  have G := StX.fn_star (P := P) (w := w) (mg := mg) (base := base) (k := k) (ps := [y]) (pv := z) (CX := L2N.CX P w) (sp := spI K cls c (nEq 1) (fun ds w => match ds with | [.tup es] => m es w | _ => .bad)) lk hcd S cxUpN (fun us rest hl => hb _ _ _ _ _ _ us rest hl) fun A outer s H vs Q E hr h =>
    ini_run (fun b x dx F0 H0 h0 => hbody cdv A outer s H E b x dx F0 H0 hr h0) (fun ds w hn => by
      match ds, hn with
      | [.tup es], hn => exact hm es w hn) h
  refine ⟨C, f, hmg, hc, M, G.imp fun vs H Q E h => ?_⟩
  obtain ⟨x, dx, C', args, H0, bx, F, ds, w0, rfl, hl, hc', nx, nd, ne, rfl, s, bo, rd, hp⟩ := h
  refine ⟨[.ref x], args, rfl, rfl, Nat.le_trans (Nat.le_of_ble_eq_true hl) hz, fun p np => ?_⟩
  have px : p ≠ x := fun e => by rw [e, upd_same] at np; cases np
  have pd : p ≠ dx := fun e => by rw [e, upd_ne ne, upd_same] at np; cases np
  have np0 : H0 p = none := by rw [upd_ne px, upd_ne pd] at np; exact np
  have xl := Ext.lay (o := .tup args) s bo np0
  refine ⟨x, dx, C', [.ref p], upd H0 p (.tup args), bx, F.upd p (.tup args), [.tup ds], w0, rfl, rfl, hc', ?_, ?_, ne, ?_, xl.sub, xl.bx, .cons (.tup (.inl (.inl upd_same)) (rd.mono xl.ff)) .nil, PostG.ext xl hp fun fs w' q H' F' us x' => q H' F' us (xl.trans x')⟩
  · rw [upd_ne px.symm]; exact nx
  · rw [upd_ne pd.symm]; exact nd
  · funext a
    by_cases e1 : a = p
    · subst e1; rw [upd_same, upd_ne px, upd_ne pd, upd_same]
    · rw [upd_ne e1]
      by_cases e2 : a = x
      · subst e2; rw [upd_same, upd_same]
      · rw [upd_ne e2, upd_ne e2]
        by_cases e3 : a = dx
        · subst e3; rw [upd_same, upd_same]
        · rw [upd_ne e3, upd_ne e3, upd_ne e1]
end
section
variable {X : Cx} {g : G} {E : EK} {e a b o : Expr} {es : List Expr} {pos p p2 apos : Pos} {fs : AM} {fo : EM} {x c : Str} {k n : Nat} {mm : List D → Bx → R D}
theorem raw_spM {fd : FuncData} {ps : List Str} {f : Addr} (F : FnOk X.prog X.w X.K X.mg X.base (L2N.CX X.prog X.w) k f fd ps (spM X.K g.cls n mm)) (hb : Binds X.K fd ps []) : FnR X.prog X.w X.K X.mg X.base (L2N.CX X.prog X.w) k f (spM X.K g.cls n mm) :=
  (F.raw hb .nil).imp fun vs H Q E h => by rw [List.append_nil]; exact h
end
end Y
namespace Y
open PySem PySem.Spec PyProof.Rows L2
section
variable {X : Cx} {g : G} {E : EK} {e a b o : Expr} {es : List Expr} {pos p p2 apos : Pos} {fs : AM} {fa fb fo : EM} {x c m : Str} {k n : Nat} {mm : List D → Bx → R D}
structure CstK (K : PySem.W.Frag) (mg : Str → Option Value) (c f : Str) (d : D) : Prop where
  ex : ∃ (C : Addr) (mc : Value) (v : V) (u : Value), mg c = some (.ref C) ∧ ClX.CRead K C mc ∧ ClX.CVal K C mc f v u ∧ ∀ (g : G) (F : FH), DR g F v d
theorem de_cst {f : Str} {d : D} (M : CstK X.K X.mg c f d) (hg : Gl X c := by rfl) (hdb : (c == ("__debug__" : Str)) = false := by decide) (hb : attributeBase (.Name c p) f X.env (eval (.Name c p) X.env) = eval (.Name c p) X.env := by rfl) :
    DE X g E (.Attribute (.Name c p) f pos) (eC d) := by
  obtain ⟨C, mc, v, u, hm, cr, cv, hd⟩ := M.ex
  exact ⟨_, ClX.pe_cval (pe_glob hg hm (v := .ref C) rfl hdb) hb, fun σ H Q F S w R h => ⟨C, mc, v, u, rfl, cr, cv, h _ _ _ R.ex (hd g F)⟩⟩
structure OpK (P : Program) (w : World) (K : PySem.W.Frag) (mg : Str → Option Value) (base : Heap) (cls : CT) (c dn : Str) (k : Nat) (mm : List D → Bx → R D) : Prop where
  ex : ∃ (C f : Addr) (fd : FuncData) (ps : List Str), cls c = some C ∧ PySem.W.selfFirst K C = true ∧ PySem.W.findIn K (.ref C) dn = some (some (.ref f)) ∧ PySem.W.isFn K (.ref f) = true ∧ FnOk P w K mg base (L2N.CX P w) k f fd ps (spM K cls 2 mm) ∧ Binds K fd ps []
def rOwn (C : Addr) (sp : Sp) (E : XK) : R2 := fun x y H Q => ∃ a b dx dy fs gs, x = .ref a ∧ y = .ref b ∧ H a = some (.ins C dx fs) ∧ H b = some (.ins C dy gs) ∧ sp [x, y] H Q E
theorem op_own {E : XK} {op : Operator} {C f : Addr} {sp : Sp} (F : FnR X.prog X.w X.K X.mg X.base (L2N.CX X.prog X.w) k f sp) (hr : Room k X.A) (hx : Passes (L2N.CX X.prog X.w) X E) (hc : PySem.W.selfFirst X.K C = true) (hs : PySem.W.findIn X.K (.ref C) (PySem.dunder op.info.2) = some (some (.ref f))) (hf : PySem.W.isFn X.K (.ref f) = true) :
    OpR X (binaryOp op) (rOwn C sp E) := by
  intro pins s σ H x y u v Q I rx ry h
  obtain ⟨a, b, dx, dy, fs, gs, rfl, rfl, ha, hb, q⟩ := h
  cases rx
  cases ry
  obtain ⟨mA, J, _⟩ := ins_get I.hok ha
  obtain ⟨mB, J', _⟩ := ins_get I.hok hb
  obtain ⟨od, J, _⟩ := J.look
  obtain ⟨od', J', _⟩ := J'.look
  obtain ⟨m, hF⟩ := I.fr
  refine PySem.W.binop_K hF I.ok.mod.kin J J'.type hc hs hf ?_
  refine wpAny_mono (wpAny_call (run_fnR (vs := [V.ref a, V.ref b]) F hr hx I (.cons rfl (.cons rfl .nil)) q)) (fun r s' hq => ?_) fun _ _ z => z
  obtain ⟨z, H', I', rz, qz⟩ := hq
  have key : EP X pins σ Q r s' := ⟨z, H', I', rz, qz⟩
  cases r with
  | notImplemented => cases z <;> first | (obtain ⟨t, e⟩ := rz; cases e) | cases rz
  | _ => exact key
def eOwn (c : Str) (mm : List D → Bx → R D) (fa fb : EM) : EM := fun S w => (fa S w).bind fun d w1 => (fb S w1).bind fun e w2 => if isCls c d && isCls c e then mm [d, e] w2 else .bad
theorem de_own {E : XK} {op : Operator} (hK : g.K = X.K) (M : OpK X.prog X.w X.K X.mg X.base g.cls c (PySem.dunder op.info.2) k mm) (hr : Room k X.A) (hx : Passes (L2N.CX X.prog X.w) X E) (ha : DE X g (kE E) a fa) (hb : DE X g (kE E) b fb) : DE X g (kE E) (.BinOp a op b pos) (eOwn c mm fa fb) := by
  obtain ⟨C, f, fd, ps, hc, sf, fi, hf, F, bi⟩ := M.ex
  obtain ⟨ta, pa, ra⟩ := ha.run
  obtain ⟨tb, pb, rb⟩ := hb.run
  refine ⟨_, pe_op (op_own (raw_spM (g := g) F bi) hr hx sf fi hf) pa pb, fun σ H Q F S w R h => ?_⟩
  refine ra σ H _ F S w R (PostG.imp (PostG.bind h) fun d w1 hd h1 v H1 F1 x1 r1 => ?_)
  refine rb σ H1 _ F1 S w1 (R.ext x1) (PostG.ext x1 (PostG.bind h1) fun e w2 h2 u H2 F2 x2 r2 => ?_)
  have x12 := x1.trans x2
  by_cases hd : (isCls c d && isCls c e) = true
  · rw [if_pos hd] at h2
    rw [Bool.and_eq_true] at hd
    have r1' := r1.mono x2.ff
    obtain ⟨q, C', dx, vs, ev, hc', hq⟩ := r1'.isCls hd.1
    obtain rfl : C' = C := Option.some.inj (hc'.symm.trans hc)
    obtain ⟨q2, C2, dx2, vs2, ev2, hc2, hq2⟩ := r2.isCls hd.2
    obtain rfl : C2 = C' := Option.some.inj (hc2.symm.trans hc)
    refine ⟨q, q2, dx, dx2, vs, vs2, ev, ev2, x2.sub _ _ hq, x2.sub _ _ hq2, ?_⟩
    rw [← hK]
    exact ⟨rfl, g.bq, F2, [d, e], w2, x2.sub, x2.bx, .cons r1' (.cons r2 .nil), Post.of x12 h2⟩
  · rw [if_neg hd] at h2; exact h2.elim
end
end Y
namespace Y
open PySem PySem.Spec PyProof.Rows L2
end Y
namespace PySem
open Sem (wp)
open AutoSeq1 (wpAny_loadPart')
theorem meets_enumerate_newU (l : Addr) (items : Array Value) (n : Nat) (dct : Option Addr) (sl : Array (Option Value)) :
    Meets (Builtin.«enumerate.__new__» ⟨[.type "enumerate", .ref l], []⟩) (fun _ R s => s.heap.get? l = some { cls := .type "tuple", dict := dct, data := .seq items n, slots := sl } ∧
      R (.ok (.ret (.ref (s.heap.push { cls := .type "tuple_iterator", data := .fields #[.ref l, .int 0 0] }).objs.size)))
        { s with heap := (s.heap.push { cls := .type "tuple_iterator", data := .fields #[.ref l, .int 0 0] }).push { cls := .type "enumerate", data := .fields #[.none, .bool false, .ref s.heap.objs.size, rawInt 0, .none, .none] } }) :=
  .of_wp fun prog w A R s h => by
    obtain ⟨hp, g, d, tk, os⟩ := s; obtain ⟨hl, h⟩ := h
    have hsub := sub_enumerate
    have hL : Heap.IsTuple (Shared.heap ⟨hp, g, d, tk, os⟩) l items := ⟨_, hl, rfl, n, rfl⟩
    wp_walk using wpAny_loadPart' hl
    refine wpAny_stack_any fun st => wpAny_pure ?_
    split
    · rename_i c _ _ _ _ _
      cases (c == Value.type "enumerate")
      · wp_walk using wpAny_loadPart' hl, wpAny_pyIter_tuple hL
        exact ⟨_, rfl, h⟩
      · wp_walk using wpAny_loadPart' hl, wpAny_pyIter_tuple hL
        exact ⟨_, rfl, h⟩
    · wp_walk using wpAny_loadPart' hl, wpAny_pyIter_tuple hL
      exact ⟨_, rfl, h⟩
theorem call_enumerate_tuple {prog : Program} {w : World} {A : Around} {E : Value → Shared → Prop} {s : Shared} {l : Addr} {items : Array Value} {Q : Value → Shared → Prop} (hL : s.heap.IsTuple l items)
    (h : ∀ h', IsEnum h' (s.heap.objs.size + 1) s.heap.objs.size 0 .none → h'.IsTupleIter s.heap.objs.size l 0 → h'.objs.size = s.heap.objs.size + 2 →
      (∀ b o, s.heap.get? b = some o → h'.get? b = some o) → Q (.ref (s.heap.objs.size + 1)) { s with heap := h' }) :
    wpAny (model prog w) A (call (.type "enumerate") [.ref l]) Q E s := by
  obtain ⟨⟨c, dct, dt, sl⟩, hl, hc, n, hd⟩ := hL
  replace hc : c = .type "tuple" := hc
  replace hd : dt = .seq items n := hd
  subst hc hd
  refine callType_new F.called_enumerate (by decide) (F.typeCall_enumerate_1 _) (F.newCall_enumerate_1 _) (fun obj => F.args_object_init_2 obj _) F.entry_enumerate_new
    (meets_enumerate_newU l items n dct sl) ⟨hl, ?_⟩
  have hz : (s.heap.push { cls := .type "tuple_iterator", data := .fields #[.ref l, .int 0 0] }).objs.size = s.heap.objs.size + 1 := Heap.size_push ..
  show _ ∧ _
  rw [hz]
  have he : IsEnum ((s.heap.push { cls := .type "tuple_iterator", data := .fields #[.ref l, .int 0 0] }).push
      { cls := .type "enumerate", data := .fields #[.none, .bool false, .ref s.heap.objs.size, rawInt 0, .none, .none] }) (s.heap.objs.size + 1) s.heap.objs.size 0 .none := by
    have := Heap.get?_push_size (s.heap.push { cls := .type "tuple_iterator", data := .fields #[.ref l, .int 0 0] })
      (o := { cls := .type "enumerate", data := .fields #[.none, .bool false, .ref s.heap.objs.size, rawInt 0, .none, .none] }) rfl
    rw [hz] at this; exact this
  refine ⟨⟨_, he, rfl⟩, h _ he ⟨_, Heap.get?_push_of_some _ (Heap.get?_push_size _ rfl), rfl, rfl⟩ (by rw [Heap.size_push, hz]) fun b o x => Heap.get?_push_of_some _ (Heap.get?_push_of_some _ x)⟩
end PySem
namespace Y
open PySem PySem.Spec PyProof.Rows L2
def ItEu (K : PySem.W.Frag) (a : Addr) : It :=
  ⟨fun i H => ∃ (xs : List V) (x : V), SqT K H a xs ∧ xs[i]? = some x, fun i H v H' => ∃ T x, v = .ref T ∧ H T = none ∧ H' = upd H T (.tup [.int (i : Nat), x]) ∧ ∀ xs, SqT K H a xs → xs[i]? = some x, fun i H => ∃ xs : List V, SqT K H a xs ∧ xs.length = i⟩
theorem turn_eu {P : Program} {w : World} {K : PySem.W.Frag} {elts : List Expr} {kk : Nat} {tpos : Pos} (a e it : Addr) :
    Turn P w K (.Tuple elts kk tpos) (ItEu K a) [e, it] e (fun i h => (∃ old, IsEnum h e it ((i : Nat) : Int) old) ∧ h.IsTupleIter it a i ∧ e ≠ it ∧ a ≠ it ∧ a ≠ e) where
  mem := List.mem_cons_self ..
  obj := fun i h st b hb => by
    obtain ⟨⟨old, he⟩, ⟨o, ho, _, hd⟩, _⟩ := st
    rcases List.mem_cons.mp hb with z | z
    · subst z; exact ⟨_, he, fun v q => nomatch q⟩
    · cases List.mem_singleton.mp z; exact ⟨o, ho, fun v q => by rw [hd] at q; cases q⟩
  keep := fun i h h' st k => by
    obtain ⟨⟨old, he⟩, ⟨o, ho, r⟩, hne⟩ := st
    exact ⟨⟨old, k e (by simp) _ he⟩, ⟨o, k it (by simp) _ ho, r⟩, hne⟩
  item := by
    intro X hP hw hK hc i pins s σ H E I hf st hg
    subst hP hw hK
    obtain ⟨⟨old, he⟩, hit, hne, nai, nae⟩ := st
    obtain ⟨xs, x, hq, hx⟩ := hg
    obtain ⟨its, rv, p, hz⟩ := I.tuple hq
    obtain ⟨u, hu, ru⟩ := rv.get hx
    have hel : e < s.heap.objs.size := Heap.lt_size he
    have hil : it < s.heap.objs.size := by obtain ⟨_, q, _⟩ := hit; exact Heap.lt_size q
    have hne' : e ∉ [it, a] := fun z => by
      rcases List.mem_cons.mp z with z | z
      · exact hne z
      · exact nae (List.mem_singleton.mp z).symm
    have hlt : i < its.toArray.size := by
      rw [List.size_toArray]
      exact (List.getElem?_eq_some_iff.mp hu).1
    refine wpAny_pyNext_enum_itemD (Draws.tuple (A := X.A.in1) (I.ok.hd hc) it a nai its.toArray) he ⟨hit, p⟩ hlt hne hne' fun v h1 tk hv ho hit1 hT hsz hk => ?_
    have hv : v = u := by
      have hv : its.toArray[i]? = some v := hv
      rw [List.getElem?_toArray, hu] at hv
      exact (Option.some.inj hv).symm
    subst hv
    refine ⟨_, rfl, wpAny_letOwnedTupleGo_enum (s := { s with heap := h1, toks := tk + 1 }) ho fun h2 he2 sb => ?_⟩
    have hT2 := (sb.2 s.heap.objs.size (Nat.ne_of_gt hel)).trans hT
    have out : ∀ b, b ∉ [e, it] → b ≠ e ∧ b ≠ it := fun b hb => ⟨fun z => hb (by simp [z]), fun z => hb (by simp [z])⟩
    have new : ObjOk X.prog X.w (upd H s.heap.objs.size (.tup [.int (i : Nat), x])) h2 s.heap.objs.size (.tup [.int (i : Nat), x]) :=
      ⟨by show 2 ≤ sizeLine; decide, [.int i tk, v], .cons ⟨_, rfl⟩ (.cons ru .nil), ⟨_, hT2, rfl, _, rfl⟩⟩
    have I1 : L2.Inv X pins σ (upd H s.heap.objs.size (.tup [.int (i : Nat), x])) { s with heap := h2, toks := tk + 1 } :=
      I.turnedNew (ch := [e, it]) (fun b ob hb q => (sb.2 b (out b hb).1).trans (hk b ob (out b hb).1 (out b hb).2 q)) hf (Nat.le_refl _) new
    refine ⟨.ref s.heap.objs.size, _, I1, rfl, ⟨_, x, rfl, I.hok.fresh (Nat.le_refl _), rfl, fun ys hy => by rw [I.tuple_inj hy hq]; exact hx⟩, ⟨⟨_, by rw [show ((i + 1 : Nat) : Int) = (i : Int) + 1 by omega]; exact he2⟩, ?_, hne, nai, nae⟩, fun b hb => ?_⟩
    · obtain ⟨o, q, r⟩ := hit1.1
      exact ⟨o, (sb.2 it (Ne.symm hne)).trans q, r⟩
    · have hb' : b < s.heap.objs.size := by
        rcases List.mem_cons.mp hb with z | z
        · rw [z]; exact hel
        · rw [List.mem_singleton.mp z]; exact hil
      rw [upd_ne (Nat.ne_of_lt hb')]
      exact (hf b hb).1
  done := by
    intro X hP hw hK hc i pins s σ H E I hf st hg
    subst hP hw hK
    obtain ⟨⟨old, he⟩, hit, hne, nai, nae⟩ := st
    obtain ⟨xs, hq, hx⟩ := hg
    obtain ⟨its, rv, p, hz⟩ := I.tuple hq
    obtain ⟨f0, f1, f2, f3, f4, f5⟩ := hf it (by simp)
    have hsz : i = its.toArray.size := by rw [List.size_toArray, ← rv.length]; exact hx.symm
    subst hsz
    exact wpAny_pyNext_enum_endD (Draws.tuple (A := X.A.in1) (I.ok.hd hc) it a nai its.toArray) he ⟨hit, p⟩ fun h' eb => ⟨rfl, I.turned (t' := s.toks) (fun b o hb q => eb b o hb q) f0 f1 f3 f4 f5⟩
  self := fun A i s Q E st h => let ⟨⟨_, he⟩, _⟩ := st; wpAny_pyIter_enum he h
section
variable {X : Cx} {g : G} {E : EK} {a : Expr} {pos p : Pos} {fa : EM}
theorem yld_eu {F : FH} {a : Addr} {xs : List V} {ds : List D} (h : SqT g.K F a xs) (r : DRs g F xs ds) : Yld g F (ItEu g.K a) (numbered ds) := by
  refine ⟨fun i z F2 H2 s1 s2 hd => ?_, fun F2 H2 s1 s2 => ⟨xs, same_T s2 (same_T s1.fz h), by rw [r.length, num_len]⟩⟩
  obtain ⟨d, hd', rfl⟩ := num_get hd
  obtain ⟨v, hv, rv⟩ := r.get hd'
  have hs : SqT g.K H2 a xs := same_T s2 (same_T s1.fz h)
  refine ⟨⟨xs, v, hs, hv⟩, fun x H3 hy => ?_⟩
  obtain ⟨T, y, e1, n, e2, e3⟩ := hy
  have e4 := e3 xs hs
  rw [hv] at e4; cases e4
  exact .inr ⟨T, _, _, e1, n, e2, .cons (.int _) (.cons (rv.mono s1) .nil), rfl⟩
def enumT : D → Option (List D)
  | .tup ds => some (numbered ds)
  | _ => none
def iEnumT (f : EM) : AM := fun S w => (f S w).bind fun d w1 => R.ofO (enumT d) w1
theorem di_enumT {elts : List Expr} {kk : Nat} {tpos : Pos} (hK : g.K = X.K) (hm : X.mg "enumerate" = none) (ha : DE X g E a fa) (hg : Gl X "enumerate" := by rfl) (hs : starEach [a] X.env = [(false, eval a X.env)] := by rfl) :
    DI X g E (.Tuple elts kk tpos) (.Call (.Name "enumerate" p) [a] [] pos) (iEnumT fa) := by
  obtain ⟨ta, pa, ra⟩ := ha.run
  have pA : PA X [a] (tCons ta tNil) := pa_cons pa pa_nil (by rw [hs]; rfl)
  refine ⟨fun σ H Rq => tCons ta tNil σ H fun vs H1 => ∃ a xs, vs = [.ref a] ∧ SqT X.K H1 a xs ∧ Rq (ItEu X.K a) H1, ⟨fun pins s σ H Rq I h => ?_⟩, fun σ H Rq F S w R h => ?_⟩
  · refine Call_ (ld_blt I hg hm boot_enumerate (PyProof.Rows.callWith_type1 (thn (pA.run pos pins s σ H _ I h) fun us s1 ⟨vs, H1, I1, r1, a, xs, ex, hq, q⟩ => ?_) hs rfl))
    subst ex
    obtain ⟨u, rfl, ru⟩ := vals1 r1
    have two : ∀ b, b ∈ [s1.heap.objs.size + 1, s1.heap.objs.size] → FpOk X pins H1 b := fun b hb => by
      have hle : s1.heap.objs.size ≤ b := by
        rcases List.mem_cons.mp hb with z | z
        · omega
        · have := List.mem_singleton.mp z; omega
      exact I1.fpOk hle (I1.hok.fresh hle)
    cases ru
    obtain ⟨its, rv, p', hz⟩ := I1.tuple hq
    have hal : a < s1.heap.objs.size := by obtain ⟨o, ho, _⟩ := p'; exact Heap.lt_size ho
    exact call_enumerate_tuple p' fun h' he hit hsz hk => wpAny_pyIter_enum he ⟨_, _, _, _, H1, rfl, I1.kept (t' := s1.toks) hk, turn_eu a (s1.heap.objs.size + 1) s1.heap.objs.size, ⟨⟨.none, he⟩, hit, Nat.succ_ne_self _, Nat.ne_of_lt hal, Nat.ne_of_lt (Nat.lt_succ_of_lt hal)⟩, two, q⟩
  · refine ra σ H _ F S w R (PostG.imp (PostG.bind h) fun d w1 hd h1 v H1 F1 x1 r1 => ?_)
    clear hd
    obtain ⟨ds, hz, q⟩ := post_ofO' h1
    rw [← hK]
    cases r1 with
    | tup h r => cases hz; exact ⟨_, _, rfl, same_T x1.sub h, q _ H1 F1 x1 (yld_eu h r)⟩
    | _ => cases hz
end
end Y
namespace Y
open PySem PySem.Spec PyProof.Rows L2
/-- the classes are names of the module -/
def clsOf (mg : Str → Option Value) (tb : List (Addr × Str)) : CT := ⟨fun c => match mg c with
  | some (.ref a) => some a
  | _ => none, tb⟩
theorem clsOf_eq {mg : Str → Option Value} {tb : List (Addr × Str)} {c : Str} {C : Addr} (h : mg c = some (.ref C)) : clsOf mg tb c = some C := by unfold clsOf; simp only; rw [h]
section
variable {P : Program} {w : World} {K : PySem.W.Frag} {mg : Str → Option Value} {base : Heap} {cls : CT}
theorem end_ok {g : G} {F0 : FH} {H : Hp} {E : XK} {Q : VK} {k n : Nat} {body : SM} {ds : List D} {w0 : Bx} {m : List D → Bx → R D} (hl : ds.length = k) (hm : ∀ ds w, m ds w ≠ .bad → runF k n body ds w = m ds w) (hp : Post g F0 H Q E (m ds w0)) :
    PostS g F0 H F0 (kE E) { nx := fun _ H' => Q .non H', rt := Q } (body (startS n ds) w0) := by
  have hnb : m ds w0 ≠ .bad := fun e => by rw [e] at hp; exact hp
  have e := hm ds w0 hnb
  rw [← e] at hp
  unfold runF at hp
  rw [if_pos hl] at hp
  cases hbd : body (startS n ds) w0 with
  | nx S1 w1 => simp only [hbd] at hp; exact fun σ' H' F' R' => hp .non H' F' R'.ext .non
  | rt d w1 => simp only [hbd] at hp; exact hp
  | bk S1 w1 => simp only [hbd] at hp; exact hp.elim
  | ct S1 w1 => simp only [hbd] at hp; exact hp.elim
  | err S1 c fs w1 => simp only [hbd] at hp; exact fun σ' H' F' R' cl a vs n k l r => hp cl a vs H' F' R'.ext n k l r
  | bad => simp only [hbd] at hp; exact hp
/-- a def or a method by its body -/
theorem fnok_of {x qual : Str} {st : Stmt} {f : Addr} {fd : FuncData} {N ps : List Str} {k : Nat} {m : List D → Bx → R D} {body : SM} (F : Fun K x qual st f fd) (S : FnScope N ps (defScope st))
    (hbody : ∀ (cdv : Value), CodeIs K f cdv → ∀ (A : Around) (outer : List Env) (s : Shared) (H : Hp) (E : XK) (bx : BQ) (F0 : FH), Room k (A.deeper (envOfC qual (defScope st) s.heap.objs.size f cdv)) →
      DSs (cxOf (L2N.CX P w) P w K mg base N qual (defScope st) f cdv A outer s H E) ⟨K, cls, bx⟩ (kE E) F0 H (defBody st) body)
    (hm : ∀ ds w, m ds w ≠ .bad → runF ps.length N.length body ds w = m ds w) : FnOk P w K mg base (L2N.CX P w) (k + 1) f fd ps (spM K cls ps.length m) := by
  refine okC F S (fun vs H Q E h => h.1) (fun cdv hcv A outer s H vs Q E hr h => ?_)
  obtain ⟨hl, bx, F0, ds, w0, s1, b1, rd, hp⟩ := h
  obtain ⟨t, pt, rt⟩ := (hbody cdv hcv A outer s H E bx F0 hr).run
  exact ⟨t, pt, rt _ (start N vs) H F0 (startS N.length ds) w0 F0 (rel_start s1 b1 rd) (end_ok (by rw [← rd.length]; exact hl) hm hp)⟩
def MthF (K : PySem.W.Frag) (mg : Str → Option Value) (c m qual : Str) (st : Stmt) (ps : List Str) : Prop := ∃ C f fd, mg c = some (.ref C) ∧ Cls K C ∧ Meth K C m f ∧ Fun K m qual st f fd ∧ Binds K fd ps []
def OpF (K : PySem.W.Frag) (mg : Str → Option Value) (c dn qual : Str) (st : Stmt) (ps : List Str) : Prop := ∃ C f fd, mg c = some (.ref C) ∧ PySem.W.selfFirst K C = true ∧ PySem.W.findIn K (.ref C) dn = some (some (.ref f)) ∧ PySem.W.isFn K (.ref f) = true ∧ Fun K dn qual st f fd ∧ Binds K fd ps []
def IniF (K : PySem.W.Frag) (mg : Str → Option Value) (c qual : Str) (st : Stmt) : Prop := ∃ C f fd, mg c = some (.ref C) ∧ Mk K C f ∧ Fun K "__init__" qual st f fd
def FldF (K : PySem.W.Frag) (mg : Str → Option Value) (c f : Str) : Prop := ∃ C, mg c = some (.ref C) ∧ Cls K C ∧ NoAttr K C f
theorem fldK {tb : List (Addr × Str)} {c f : Str} (h : FldF K mg c f) : FldK K (clsOf mg tb) c f := let ⟨C, h1, h2, h3⟩ := h; ⟨C, clsOf_eq h1, h2, h3⟩
end
end Y
namespace Y
open PySem PySem.Spec PyProof.Rows L2
section
variable {X : Cx} {g : G} {pos : Pos}
end
end Y
namespace Y
open PySem PySem.Spec PyProof.Rows L2
section
variable {X : Cx} {g : G} {E : EK} {e a b o : Expr} {es : List Expr} {pos p p2 apos : Pos} {fs : AM} {f fa fb fo : EM} {x c m : Str} {k n : Nat} {mm : List D → Bx → R D}
end
theorem kit_self {K : PySem.W.Frag} {C : Addr} : PySem.W.kitOne K (.ref C) (.ref C) = some true := by unfold PySem.W.kitOne; rw [if_pos (by simp)]
end Y
namespace Y
open PySem PySem.Spec PyProof.Rows L2
section
variable {X : Cx} {g : G} {E : EK} {e a b o : Expr} {es : List Expr} {pos p p2 apos p1 p3 : Pos} {fs : AM} {f fa fb fo : EM} {x c m : Str} {k n : Nat} {mm : List D → Bx → R D} {te : TE}
end
end Y
namespace Y
open PySem PySem.Spec PyProof.Rows L2
section
variable {M : Model} {prog : Program} {w : World} {A : Around} {E : Value → Shared → Prop} {s : Shared} {K : PySem.W.Frag} {x C f : Addr} {b : Value} {ox : Obj} {od : Option Obj}
end
section
variable {X : Cx} {g : G} {E : EK} {e a b o : Expr} {pos p p2 : Pos} {f fa fb fo : EM} {x c m : Str} {k n : Nat} {mm : List D → Bx → R D}
end
end Y
namespace Y
open PySem PySem.Spec PyProof.Rows L2
section
variable {X : Cx} {g : G} {E : EK} {e : Expr} {es : List Expr} {pos p : Pos} {fs : AM}
end
end Y
namespace Y
open PySem PySem.Spec PyProof.Rows L2
def tx (l : List Nat) : Str := ⟨l.toArray⟩
@[simp] theorem tx_list (l : List Nat) : (tx l).cps.toList = l := by simp [tx]
@[simp] theorem tx_len (l : List Nat) : (tx l).length = l.length := by simp [tx, Str.length]
def sameD : Nat → D → D → Bool
  | 0, _, _ => false
  | n + 1, d, e => match d, e with
    | .non, .non => true
    | .bl a, .bl b => a == b
    | .int a, .int b => a == b
    | .str a, .str b => a == b
    | .lst a, .lst b => (a.length == b.length && decide (a.length ≤ sizeN)) && (a.zip b).all fun p => sameD n p.1 p.2
    | .tup a, .tup b => (a.length == b.length && decide (a.length ≤ sizeN)) && (a.zip b).all fun p => sameD n p.1 p.2
    | _, _ => false
def mSame (n : Nat) : List D → Bx → R D := fun ds w => match ds with
  | [d, e] => if sameD n d e then .ok (.bl true) w else .bad
  | _ => .bad
end Y
namespace Y
open PySem PySem.Spec PyProof.Rows L2
theorem at_int {α : Type} {xs : List α} {r : Int} (h0 : 0 ≤ r) (hr : r.toNat < xs.length) : atI xs r = some xs[r.toNat] := by
  have h := atI_nat (List.getElem?_eq_getElem hr)
  rwa [Int.toNat_of_nonneg h0] at h
section
variable {S S1 : SL} {w w1 w2 w3 : Bx} {d e z : D} {ds es : List D} {m k : SM} {f fa fb : EM} {fs : AM} {t u : TM} {b : Bool} {i : Nat} {α : Type}
theorem x_seq {r : RS} (h : m S w = .nx S1 w1) (h2 : k S1 w1 = r) : sSeq m k S w = r := by unfold sSeq; rw [h]; exact h2
theorem x_seqR (h : m S w = .rt d w1) : sSeq m k S w = .rt d w1 := by unfold sSeq; rw [h]
theorem x_seqE {c : Str} {fs : List (Str × D)} (h : m S w = .err S1 c fs w1) : sSeq m k S w = .err S1 c fs w1 := by unfold sSeq; rw [h]
theorem x_ifT {r : RS} (h : t S w = .ok true w1) (h2 : m S w1 = r) : sIf t m k S w = r := by unfold sIf; rw [h]; exact h2
theorem x_ifF {r : RS} (h : t S w = .ok false w1) (h2 : k S w1 = r) : sIf t m k S w = r := by unfold sIf; rw [h]; exact h2
theorem x_set (h : f S w = .ok d w1) : sSet i f S w = .nx (S.set i (some (.dat d))) w1 := by unfold sSet; rw [h]; rfl
theorem x_setO (h : fs S w = .ok ds w1) : sSetO i fs S w = .nx (S.set i (some (.own ds))) w1 := by unfold sSetO; rw [h]; rfl
theorem x_ret (h : f S w = .ok d w1) : sRet f S w = .rt d w1 := by unfold sRet; rw [h]; rfl
theorem x_par {j : Nat} (h : fs S w = .ok [d, e] w1) : sPar i j fs S w = .nx ((S.set i (some (.dat d))).set j (some (.dat e))) w1 := by unfold sPar; rw [h]; rfl
theorem x_par3 {j l : Nat} (h : fs S w = .ok [d, e, z] w1) : sPar3 i j l fs S w = .nx (((S.set i (some (.dat d))).set j (some (.dat e))).set l (some (.dat z))) w1 := by unfold sPar3; rw [h]; rfl
theorem x_asg {gm : GM} (h : f S w = .ok d w1) (hg : gm d S = some S1) : sAsg f gm S w = .nx S1 w1 := by unfold sAsg; rw [h, R.to_ok, hg]
theorem x_bin {mo : D → D → Option D} (ha : fa S w = .ok d w1) (hb : fb S w1 = .ok e w2) (hm : mo d e = some z) : eBin mo fa fb S w = .ok z w2 := by unfold eBin; rw [ha, R.bind_ok, hb, R.bind_ok, hm]; rfl
theorem x_e1 {mo : D → Option D} (ha : fa S w = .ok d w1) (hm : mo d = some z) : e1 mo fa S w = .ok z w1 := by unfold e1; rw [ha, R.bind_ok, hm]; rfl
theorem x_m1 {mo : D → D → Option D} {s : Str} (ha : fa S w = .ok (.str s) w1) (hb : fb S w1 = .ok e w2) (hm : mo (.str s) e = some z) : eM1 mo fa fb S w = .ok z w2 := by unfold eM1; rw [ha, R.bind_ok]; show R.bind (fb S w1) _ = _; rw [hb, R.bind_ok, hm]; rfl
theorem x_B {mo : List D → Option D} (ha : fs S w = .ok ds w1) (hm : mo ds = some z) : eB mo fs S w = .ok z w1 := by unfold eB; rw [ha, R.bind_ok, hm]; rfl
theorem x_oB {mo : List D → Option (List D)} (ha : fs S w = .ok ds w1) (hm : mo ds = some es) : oB mo fs S w = .ok es w1 := by unfold oB; rw [ha, R.bind_ok, hm]; rfl
theorem x_nil : aNil S w = .ok [] w := rfl
theorem x_cons (ha : f S w = .ok d w1) (hr : fs S w1 = .ok ds w2) : aCons f fs S w = .ok (d :: ds) w2 := by unfold aCons; rw [ha, R.bind_ok, hr]; rfl
theorem x_call {n : Nat} {mm : List D → Bx → R D} {r : R D} (ha : fs S w = .ok ds w1) (hl : ds.length = n) (hm : mm ds w1 = r) : eCall n mm fs S w = r := by unfold eCall; rw [ha, R.bind_ok, if_pos hl, hm]
theorem x_tup (ha : fs S w = .ok ds w1) (hl : ds.length ≤ sizeN) : eTup fs S w = .ok (.tup ds) w1 := by unfold eTup; rw [ha, R.bind_ok, if_pos hl]
theorem x_lst (ha : fs S w = .ok ds w1) (hl : ds.length ≤ sizeN) : oLst fs S w = .ok ds w1 := by unfold oLst; rw [ha, R.bind_ok, if_pos hl]
theorem x_frz (ha : fs S w = .ok ds w1) : eFrz fs S w = .ok (.lst ds) w1 := by unfold eFrz; rw [ha]; rfl
theorem x_tOf (h : f S w = .ok (.bl b) w1) : tOf f S w = .ok b w1 := by unfold tOf; rw [h]; rfl
theorem x_notT (h : t S w = .ok true w1) : tNotM t S w = .ok false w1 := by unfold tNotM; rw [h]; rfl
theorem x_notF (h : t S w = .ok false w1) : tNotM t S w = .ok true w1 := by unfold tNotM; rw [h]; rfl
theorem x_enotT (h : fa S w = .ok (.bl true) w1) : eNotM fa S w = .ok (.bl false) w1 := by unfold eNotM; rw [x_tOf h]; rfl
theorem x_enotF (h : fa S w = .ok (.bl false) w1) : eNotM fa S w = .ok (.bl true) w1 := by unfold eNotM; rw [x_tOf h]; rfl
theorem rng_ok {q : Int} (h0 : 0 ≤ q) (h1 : q < 4611686018427387904) : rngOf [.int q] = some (upFrom 0 q.toNat) := by
  show (if -(2 ^ 62) ≤ q ∧ q < 2 ^ 62 then some (upFrom 0 q.toNat) else none) = _
  rw [if_pos ⟨by omega, by omega⟩]
theorem x_andT {r : R Bool} (h : t S w = .ok true w1) (h2 : u S w1 = r) : tAndM t u S w = r := by unfold tAndM; rw [h, R.bind_ok, if_pos rfl, h2]
theorem x_andF (h : t S w = .ok false w1) : tAndM t u S w = .ok false w1 := by unfold tAndM; rw [h]; rfl
theorem x_orT (h : t S w = .ok true w1) : tOrM t u S w = .ok true w1 := by unfold tOrM; rw [h]; rfl
theorem x_orF {r : R Bool} (h : t S w = .ok false w1) (h2 : u S w1 = r) : tOrM t u S w = r := by unfold tOrM; rw [h, R.bind_ok]; exact h2
theorem x_eandT {r : R D} (h : fa S w = .ok (.bl true) w1) (h2 : fb S w1 = r) : eAndM fa fb S w = r := by unfold eAndM; rw [x_tOf h, R.bind_ok, if_pos rfl, h2]
theorem x_eandF (h : fa S w = .ok (.bl false) w1) : eAndM fa fb S w = .ok (.bl false) w1 := by unfold eAndM; rw [x_tOf h]; rfl
theorem x_eorT (h : fa S w = .ok (.bl true) w1) : eOrM fa fb S w = .ok (.bl true) w1 := by unfold eOrM; rw [x_tOf h]; rfl
theorem x_eorF {r : R D} (h : fa S w = .ok (.bl false) w1) (h2 : fb S w1 = r) : eOrM fa fb S w = r := by unfold eOrM; rw [x_tOf h, R.bind_ok]; exact h2
theorem x_eifT {r : R D} (h : t S w = .ok true w1) (h2 : fa S w1 = r) : eIf t fa fb S w = r := by unfold eIf; rw [h, R.bind_ok, if_pos rfl, h2]
theorem x_eifF {r : R D} (h : t S w = .ok false w1) (h2 : fb S w1 = r) : eIf t fa fb S w = r := by unfold eIf; rw [h, R.bind_ok]; exact h2
theorem x_any (h : f S w = .ok d w1) (hi : itemsOf d = some ds) : iAny f S w = .ok ds w1 := by unfold iAny; rw [h, R.bind_ok, hi]; rfl
theorem x_by {mo : List D → Option (List D)} (h : fs S w = .ok ds w1) (hi : mo ds = some es) : iBy mo fs S w = .ok es w1 := by unfold iBy; rw [h, R.bind_ok, hi]; rfl
theorem x_pSome {n : Int} (h : f S w = .ok (.int n) w1) : pSome f S w = .ok (some n) w1 := by unfold pSome; rw [h]; rfl
theorem x_sl {lo hi : Option Int} {l h : SL → Bx → R (Option Int)} (ha : f S w = .ok d w1) (hl : l S w1 = .ok lo w2) (hh : h S w2 = .ok hi w3) (hm : mSl d lo hi = some z) : eSl f l h S w = .ok z w3 := by unfold eSl; rw [ha, R.bind_ok, hl, R.bind_ok, hh, R.bind_ok, hm]; rfl
theorem x_for {fi : AM} {gm : GM} {body : SM} {r : RS} (h : fi S w = .ok ds w1) (hl : forLoop gm body ds S w1 = r) : sFor fi gm body S w = r := by unfold sFor; rw [h]; exact hl
theorem x_frzS {j : Nat} {r : RS} (h : m (frz j S) w = r) : sFrz j m S w = r := h
theorem x_sbx {n : Int} (h : f S w = .ok d w1) (hb : isBox S i = true) (hp : bxPut w1 n d = some w2) : sBx i n f S w = .nx S w2 := by unfold sBx; rw [h, R.to_ok, if_pos hb, hp]
/-- a comprehension whose elements are told one by one -/
theorem x_lc {fi : AM} {gm : GM} {tm : TM} {em : EM} {vs : List Nat} {r : R (List D)} (h : fi S w = .ok ds w1) (hl : ds.length ≤ sizeN) (hr : lcLoop gm tm em (wipeS S vs) ds w1 = r) : oLc fi gm tm em vs S w = r := by unfold oLc; rw [h, R.bind_ok, if_pos hl, hr]
theorem x_lcC {gm : GM} {tm : TM} {em : EM} (hg : gm d S = some S1) (ht : tm S1 w = .ok true w1) (he : em S1 w1 = .ok e w2) (hr : lcLoop gm tm em S ds w2 = .ok es w3) : lcLoop gm tm em S (d :: ds) w = .ok (e :: es) w3 := by
  unfold lcLoop; rw [hg]; simp only [ht, he, R.nx, R.bind_ok, if_true, hr]
theorem x_lcS {gm : GM} {tm : TM} {em : EM} {r : R (List D)} (hg : gm d S = some S1) (ht : tm S1 w = .ok false w1) (hr : lcLoop gm tm em S ds w1 = r) : lcLoop gm tm em S (d :: ds) w = r := by
  rw [show lcLoop gm tm em S (d :: ds) w = (match gm d S with | none => .bad | some S1 => (tm S1 w).nx.bind fun b w1 => if b then (em S1 w1).nx.bind fun y w2 => (lcLoop gm tm em S ds w2).bind fun ys w3 => .ok (y :: ys) w3 else lcLoop gm tm em S ds w1) from rfl, hg]
  simp only [ht, R.nx, R.bind_ok]
  exact hr
/-- the same over a list of anything -/
theorem x_lcL {β : Type} {gm : GM} {tm : TM} {em : EM} (f g : β → D) (p : β → Bool) : ∀ (l : List β) (w : Bx), (∀ c ∈ l, ∃ S1, gm (f c) S = some S1 ∧ tm S1 w = .ok (p c) w ∧ (p c = true → em S1 w = .ok (g c) w)) → lcLoop gm tm em S (l.map f) w = .ok ((l.filter p).map g) w
  | [], w, _ => rfl
  | x :: ds, w, h => by
    obtain ⟨S1, h1, h2, h3⟩ := h x (List.mem_cons_self ..)
    have ih := x_lcL f g p ds w fun y hy => h y (List.mem_cons_of_mem _ hy)
    rw [List.map_cons]
    cases hp : p x with
    | true =>
      rw [List.filter_cons_of_pos hp, List.map_cons]
      exact x_lcC h1 (hp ▸ h2) (h3 hp) ih
    | false =>
      rw [List.filter_cons_of_neg (by simp [hp])]
      exact x_lcS h1 (hp ▸ h2) ih
theorem x_lcT {β : Type} {gm : GM} {em : EM} (f g : β → D) (l : List β) (w : Bx) (h : ∀ c ∈ l, ∃ S1, gm (f c) S = some S1 ∧ em S1 w = .ok (g c) w) : lcLoop gm tYesM em S (l.map f) w = .ok (l.map g) w := by
  have := x_lcL (tm := tYesM) f g (fun _ => true) l w fun x hx => by
    obtain ⟨S1, h1, h2⟩ := h x hx
    exact ⟨S1, h1, rfl, fun _ => h2⟩
  rwa [List.filter_eq_self.mpr (fun _ _ => rfl)] at this
/-- with draws: each element has the property -/
theorem x_lcP {gm : GM} {em : EM} (P : D → Prop) : ∀ (ds : List D) (w : Bx), (∀ x ∈ ds, ∀ w, ∃ S1 y w', gm x S = some S1 ∧ em S1 w = .ok y w' ∧ P y) → ∃ ys w', lcLoop gm tYesM em S ds w = .ok ys w' ∧ ys.length = ds.length ∧ ∀ y ∈ ys, P y
  | [], w, _ => ⟨[], w, rfl, rfl, fun _ h => nomatch h⟩
  | x :: ds, w, h => by
    obtain ⟨S1, y, w1, h1, h2, h3⟩ := h x (List.mem_cons_self ..) w
    obtain ⟨ys, w2, h4, h5, h6⟩ := x_lcP P ds w1 fun z hz => h z (List.mem_cons_of_mem _ hz)
    exact ⟨y :: ys, w2, x_lcC h1 rfl h2 h4, by rw [List.length_cons, List.length_cons, h5], fun z hz => (List.mem_cons.mp hz).elim (fun e => e ▸ h3) (h6 z)⟩
theorem x_run {n l : Nat} {body : SM} {ds : List D} (hl : ds.length = n) (h : body (startS l ds) w = .rt d w1) : runF n l body ds w = .ok d w1 := by unfold runF; rw [if_pos hl, h]
theorem x_runE {n l : Nat} {body : SM} {ds : List D} {c : Str} {fs : List (Str × D)} (hl : ds.length = n) (h : body (startS l ds) w = .err S1 c fs w1) : runF n l body ds w = .err c fs w1 := by unfold runF; rw [if_pos hl, h]
/-- a for whose turns go on, whatever is drawn -/
theorem x_forP {gm : GM} {body : SM} (I : SL → Prop) : ∀ (ds : List D) (S : SL) (w : Bx), I S → (∀ x ∈ ds, ∀ S w, I S → ∃ S1, gm x S = some S1 ∧ ∃ S2 w2, (body S1 w = .nx S2 w2 ∨ body S1 w = .ct S2 w2) ∧ I S2) → ∃ S2 w2, forLoop gm body ds S w = .nx S2 w2 ∧ I S2
  | [], S, w, h, _ => ⟨S, w, rfl, h⟩
  | x :: ds, S, w, h, hb => by
    obtain ⟨S1, h1, S2, w2, h2, h3⟩ := hb x (List.mem_cons_self ..) S w h
    obtain ⟨S3, w3, h4, h5⟩ := x_forP I ds S2 w2 h3 fun y hy => hb y (List.mem_cons_of_mem _ hy)
    refine ⟨S3, w3, ?_, h5⟩
    show (match gm x S with | none => RS.bad | some S1 => _) = _
    rw [h1]
    rcases h2 with h2 | h2
    · simp only [h2]; exact h4
    · simp only [h2]; exact h4
end
end Y

namespace Y
open PySem PySem.Spec PyProof.Rows L2
theorem x_same {n : Nat} {d e : D} {w : Bx} (h : sameD n d e = true) : mSame n [d, e] w = .ok (.bl true) w := by
  show (if sameD n d e then R.ok (D.bl true) w else .bad) = _
  rw [if_pos h]
theorem lsz {n m : Nat} (h : Nat.ble n m = true) : n ≤ m := Nat.le_of_ble_eq_true h
theorem lit_ab : ("ab" : Str) = tx [97, 98] := by decide +kernel
theorem lit_a : ("a" : Str) = tx [97] := by decide +kernel
theorem lit_b : ("b" : Str) = tx [98] := by decide +kernel
end Y
namespace Y
open PySem PySem.Spec PyProof.Rows L2
end Y
namespace Y
open PySem PySem.Spec PyProof.Rows L2
def isT : Option D → Bool
  | some (.bl true) => true
  | _ => false
def isF : Option D → Bool
  | some (.bl false) => true
  | _ => false
theorem of_isT {o : Option D} (h : isT o = true) : o = some (.bl true) := by
  unfold isT at h
  split at h
  · rfl
  · cases h
theorem of_isF {o : Option D} (h : isF o = true) : o = some (.bl false) := by
  unfold isF at h
  split at h
  · rfl
  · cases h
section
variable {S : SL} {w w1 w2 w3 : Bx} {d e z : D} {i : Nat}
theorem x_var (h : S[i]? = some (some (.dat d))) : eVar i S w = .ok d w := by unfold eVar; rw [h]
theorem x_C : eC d S w = .ok d w := rfl
theorem x_pN : pNone S w = .ok none w := rfl
theorem x_skip : sNil S w = .nx S w := rfl
end
structure Stuck (p : Prop) : Prop where
  h : p
theorem st_eq {a b : D} {o : Option D} (s : Stuck (mEq a b = o)) : mEq a b = o := s.h
theorem st_ne {a b : D} {o : Option D} (s : Stuck (mNe a b = o)) : mNe a b = o := s.h
theorem st_in {a b : D} {o : Option D} (s : Stuck (mIn a b = o)) : mIn a b = o := s.h
theorem st_nin {a b : D} {o : Option D} (s : Stuck (mNotIn a b = o)) : mNotIn a b = o := s.h
theorem st_tab {t : List (Str × Str)} {a : D} {o : Option D} (s : Stuck (mTab t a = o)) : mTab t a = o := s.h
theorem st_tabD {t : List (Str × Str)} {a b : D} {o : Option D} (s : Stuck (mTabD t a b = o)) : mTabD t a b = o := s.h
theorem tqO {a b : Option D} (h : a = b) : a = b := h
theorem tqN {a b : Nat} (h : a = b) : a = b := h
theorem tqB {a b : Bool} (h : a = b) : a = b := h
theorem tqD {a b : D} (h : a = b) : a = b := h
theorem tqL {a b : Option (List D)} (h : a = b) : a = b := h
theorem x_tupZ {fs : AM} {S : SL} {w w1 : Bx} {ds : List D} {z : D} (ha : fs S w = .ok ds w1) (hl : ds.length ≤ sizeN) (hz : D.tup ds = z) : eTup fs S w = .ok z w1 := hz ▸ x_tup ha hl
structure Pl where
  c : Nat
  n : Nat
  fr : Bool
inductive Kd where
  | bef (c : Nat) | aft (c : Nat) | rem | flp
inductive Ed where
  | keep | pre (c : Nat) | app (c : Nat) | at_ (k : Kd) (p : Pl)
def endS (fr : Bool) : Str := if fr then "front" else "back"
def placeD (c n : Nat) (fr : Bool) : D := .tup [.str (tx [c]), .int (n : Int), .str (endS fr)]
def plD (p : Pl) : D := placeD p.c p.n p.fr
def edD : Ed → D
  | .keep => .tup [.str "keep"]
  | .pre c => .tup [.str "prepend", .str (tx [c])]
  | .app c => .tup [.str "append", .str (tx [c])]
  | .at_ (.bef c) p => .tup [.str "before", plD p, .str (tx [c])]
  | .at_ (.aft c) p => .tup [.str "after", plD p, .str (tx [c])]
  | .at_ .rem p => .tup [.str "remove", plD p]
  | .at_ .flp p => .tup [.str "flip", plD p]
def AB (c : Nat) : Prop := c = 97 ∨ c = 98
instance (c : Nat) : Decidable (AB c) := inferInstanceAs (Decidable (_ ∨ _))
def PlOk (p : Pl) : Prop := AB p.c ∧ 0 < p.n ∧ p.n ≤ 3
def KdOk : Kd → Prop
  | .bef c => AB c
  | .aft c => AB c
  | _ => True
def EdOk : Ed → Prop
  | .keep => True
  | .pre c => AB c
  | .app c => AB c
  | .at_ k p => KdOk k ∧ PlOk p
def flipC (c : Nat) : Nat := if c = 97 then 98 else 97
def piece : Kd → Nat → List Nat
  | .bef c, s => [c, s]
  | .aft c, s => [s, c]
  | .rem, _ => []
  | .flp, s => [flipC s]
end Y
namespace Y
open PySem PySem.Spec PyProof.Rows L2
end Y
namespace Y
open PySem PySem.Spec PyProof.Rows L2
end Y
namespace Y
open PySem PySem.Spec PyProof.Rows L2
theorem x_dget2 {fa fb fc : EM} {S : SL} {w w1 w2 w3 : Bx} {kvs : List (Key × D)} {k z r : D} (ha : fa S w = .ok (.dct kvs) w1) (hb : fb S w1 = .ok k w2) (hc : fc S w2 = .ok z w3) (hm : mDGet2 (.dct kvs) k z = some r) : eDGet2 fa fb fc S w = .ok r w3 := by
  unfold eDGet2
  rw [ha, R.bind_ok, if_pos (show isDct (.dct kvs) = true from rfl), hb, R.bind_ok, hc, R.bind_ok, hm]; rfl
def plainD : Nat → D → Prop
  | 0, _ => False
  | n + 1, d => match d with
    | .non => True
    | .bl _ => True
    | .int _ => True
    | .str _ => True
    | .lst a => a.length ≤ 16777216 ∧ ∀ x ∈ a, plainD n x
    | .tup a => a.length ≤ 16777216 ∧ ∀ x ∈ a, plainD n x
    | _ => False
theorem zip_all (f : D → D → Bool) : ∀ (l : List D), (∀ x ∈ l, f x x = true) → ((l.zip l).all fun p => f p.1 p.2) = true
  | [], _ => rfl
  | a :: l, h => by
    rw [List.zip_cons_cons, List.all_cons, Bool.and_eq_true]
    exact ⟨h a (List.mem_cons_self ..), zip_all f l fun x hx => h x (List.mem_cons_of_mem _ hx)⟩
theorem same_refl : ∀ (n : Nat) (d : D), plainD n d → sameD n d d = true
  | 0, _, h => h.elim
  | n + 1, d, h => by
    have key : ∀ a : List D, a.length ≤ 16777216 ∧ (∀ x ∈ a, plainD n x) → ((a.length == a.length && decide (a.length ≤ sizeN)) && (a.zip a).all fun p => sameD n p.1 p.2) = true := fun a h => by
      rw [Bool.and_eq_true, Bool.and_eq_true]
      exact ⟨⟨beq_self_eq_true _, decide_eq_true h.1⟩, zip_all _ a fun x hx => same_refl n x (h.2 x hx)⟩
    cases d with
    | non => rfl
    | bl b => simp [sameD]
    | int b => simp [sameD]
    | str b => simp [sameD]
    | lst a => rw [sameD]; exact key a h
    | tup a => rw [sameD]; exact key a h
    | _ => exact h.elim
theorem plain_nil {n : Nat} : ∀ x ∈ ([] : List D), plainD n x := fun _ h => nomatch h
theorem plain_cons {n : Nat} {d : D} {ds : List D} (h : plainD n d) (t : ∀ x ∈ ds, plainD n x) : ∀ x ∈ d :: ds, plainD n x := fun x hx => by
  rcases List.mem_cons.mp hx with rfl | z
  · exact h
  · exact t x z
theorem plain_ed (e : Ed) (n : Nat) : plainD (n + 3) (edD e) := by
  cases e with
  | keep => exact ⟨lsz rfl, plain_cons trivial plain_nil⟩
  | pre c => exact ⟨lsz rfl, plain_cons trivial (plain_cons trivial plain_nil)⟩
  | app c => exact ⟨lsz rfl, plain_cons trivial (plain_cons trivial plain_nil)⟩
  | at_ k p =>
    have hp : plainD (n + 2) (plD p) := ⟨lsz rfl, plain_cons trivial (plain_cons trivial (plain_cons trivial plain_nil))⟩
    cases k with
    | bef c => exact ⟨lsz rfl, plain_cons trivial (plain_cons hp (plain_cons trivial plain_nil))⟩
    | aft c => exact ⟨lsz rfl, plain_cons trivial (plain_cons hp (plain_cons trivial plain_nil))⟩
    | rem => exact ⟨lsz rfl, plain_cons trivial (plain_cons hp plain_nil)⟩
    | flp => exact ⟨lsz rfl, plain_cons trivial (plain_cons hp plain_nil)⟩
theorem x_same' {d : D} {w : Bx} (h : plainD 8 d) : mSame 8 [d, d] w = .ok (.bl true) w := x_same (same_refl 8 d h)
end Y
namespace Y
open PySem PySem.Spec PyProof.Rows L2
def nice1 (d : D) : Prop := ∃ p, shp d = some p
def nice2 (d : D) : Prop := nice1 d ∧ ∀ es, d = .tup es → ∀ y ∈ es, nice1 y
def strEq (a : Str) : D → Bool
  | .str s => decide (s = a)
  | _ => false
theorem eqv_strL {a : Str} {d : D} {p : PyData} (h : toPy d = some p) : PyData.eqv (.str a) p = strEq a d := by
  cases d with
  | non => rw [toPy] at h; cases h; rfl
  | bl b => rw [toPy] at h; cases h; rfl
  | int b => rw [toPy] at h; cases h; rfl
  | str b => rw [toPy] at h; cases h; rw [PyData.eqv, Bool.eq_iff_iff, beq_iff_eq, strEq, decide_eq_true_iff]; exact eq_comm
  | lst ds => rw [toPy] at h; obtain ⟨ps, _, e⟩ := Option.map_eq_some_iff.mp h; subst e; rfl
  | tup ds => rw [toPy] at h; obtain ⟨ps, _, e⟩ := Option.map_eq_some_iff.mp h; subst e; rfl
  | _ => rw [toPy] at h; cases h
theorem eqv_strR {a : Str} {d : D} {p : PyData} (h : toPy d = some p) : PyData.eqv p (.str a) = strEq a d := by
  cases d with
  | non => rw [toPy] at h; cases h; rfl
  | bl b => rw [toPy] at h; cases h; rfl
  | int b => rw [toPy] at h; cases h; rfl
  | str b => rw [toPy] at h; cases h; rw [PyData.eqv, Bool.eq_iff_iff]; simp [strEq]
  | lst ds => rw [toPy] at h; obtain ⟨ps, _, e⟩ := Option.map_eq_some_iff.mp h; subst e; rfl
  | tup ds => rw [toPy] at h; obtain ⟨ps, _, e⟩ := Option.map_eq_some_iff.mp h; subst e; rfl
  | _ => rw [toPy] at h; cases h
theorem in_gen {d : D} {p : PyData} {ds : List D} {ps : List PyData} (h : shp d = some p) (hq : shp (.tup ds) = some (.tuple ps)) : mIn d (.tup ds) = some (.bl (ps.any fun z => PyData.eqv z p)) := by
  have e : inB d (.tup ds) = some (ps.any fun z => PyData.eqv z p) := by
    cases d <;> simp only [inB, h, hq, Option.bind_some]
  unfold mIn
  rw [e]; rfl
theorem shp_str2 (a b : Str) (h : SeqAt.shaped (.tuple [.str a, .str b]) = true) : shp (.tup [.str a, .str b]) = some (.tuple [.str a, .str b]) := by
  unfold shp
  have : toPy (.tup [.str a, .str b]) = some (.tuple [.str a, .str b]) := by simp [toPy, toPys]
  rw [this, Option.bind_some, if_pos h]
theorem in_str2 {d : D} {a b : Str} (h : nice1 d) (hs : SeqAt.shaped (.tuple [.str a, .str b]) = true) : mIn d (.tup [.str a, .str b]) = some (.bl (strEq a d || strEq b d)) := by
  obtain ⟨p, h⟩ := h
  rw [in_gen h (shp_str2 a b hs)]
  have := (shp_some h).1
  simp only [List.any_cons, List.any_nil, Bool.or_false, eqv_strL this]
theorem eq_str {d : D} {a : Str} (h : nice1 d) (hs : SeqAt.shaped (.str a) = true) : mEq d (.str a) = some (.bl (strEq a d)) := by
  obtain ⟨p, h⟩ := h
  have t := (shp_some h).1
  have ha : shp (.str a) = some (.str a) := by unfold shp; rw [toPy, Option.bind_some, if_pos hs]
  unfold mEq
  cases d with
  | str b => simp only [eqB, Option.map_some, strEq]
  | _ => simp only [eqB, h, ha, Option.bind_some, Option.map_some, eqv_strR t]
def isSym (d : D) : Bool := strEq "a" d || strEq "b" d
def isNum : D → Bool
  | .int i => decide (i = 1) || decide (i = 2)
  | _ => false
def isPl : D → Bool
  | .tup [a, b, c] => isSym a && (isNum b && (strEq "front" c || strEq "back" c))
  | _ => false
def isEdB (b1 b2 b3 b4 : Bool) (r : List D) : Bool :=
  if b1 then (match r with | [] => true | _ => false)
  else if b2 then (match r with | [s] => isSym s | _ => false)
  else if b3 then (match r with | [p, s] => isPl p && isSym s | _ => false)
  else if b4 then (match r with | [p] => isPl p | _ => false)
  else false
def isEdD : List D → Bool
  | [] => false
  | w :: r => isEdB (strEq "keep" w) (strEq "prepend" w || strEq "append" w) (strEq "before" w || strEq "after" w) (strEq "remove" w || strEq "flip" w) r
/-- number in (1, 2) -/
def in12 : D → Bool
  | .int i => decide (i = 1) || decide (i = 2)
  | .bl b => b
  | _ => false
theorem in_12 {d : D} (h : nice1 d) : mIn d (.tup [.int 1, .int 2]) = some (.bl (in12 d)) := by
  obtain ⟨p, h⟩ := h
  have hq : shp (.tup [.int 1, .int 2]) = some (.tuple [.int 1, .int 2]) := by
    unfold shp
    have : toPy (.tup [.int 1, .int 2]) = some (.tuple [.int 1, .int 2]) := by simp [toPy, toPys]
    rw [this, Option.bind_some, if_pos (by decide +kernel)]
  rw [in_gen h hq]
  have t := (shp_some h).1
  congr 2
  cases d with
  | non => rw [toPy] at t; cases t; rfl
  | bl b => rw [toPy] at t; cases t; cases b <;> rfl
  | int b =>
    rw [toPy] at t; cases t
    have c : ∀ k : Int, (k == b) = decide (b = k) := fun k => by rw [Bool.eq_iff_iff, beq_iff_eq, decide_eq_true_iff]; exact eq_comm
    simp only [List.any_cons, List.any_nil, Bool.or_false, PyData.eqv, in12, c]
  | str b => rw [toPy] at t; cases t; rfl
  | lst ds => rw [toPy] at t; obtain ⟨ps, _, e⟩ := Option.map_eq_some_iff.mp t; subst e; rfl
  | tup ds => rw [toPy] at t; obtain ⟨ps, _, e⟩ := Option.map_eq_some_iff.mp t; subst e; rfl
  | _ => rw [toPy] at t; cases t
theorem isi_of {T a : String} {d : D} (h : tyN d = some a) : mIsi T d = some (.bl (isSub a T)) := by unfold mIsi; rw [h]; rfl
theorem nice_ty {d : D} (h : nice1 d) : ∃ a, tyN d = some a := by
  obtain ⟨p, h⟩ := h
  have t := (shp_some h).1
  cases d with
  | box => rw [toPy] at t; cases t
  | obj _ _ => rw [toPy] at t; cases t
  | dct _ => rw [toPy] at t; cases t
  | cel _ => rw [toPy] at t; cases t
  | _ => exact ⟨_, rfl⟩
def niceN : Nat → D → Prop
  | _, .non => True
  | _, .bl _ => True
  | _, .int _ => True
  | _, .str s => PyData.strOk s = true
  | n + 1, .lst ds => ∀ x ∈ ds, niceN n x
  | n + 1, .tup ds => ∀ x ∈ ds, niceN n x
  | _, _ => False
mutual
theorem nice_py : ∀ {d : D} {n : Nat}, niceN n d → ∃ p, toPy d = some p ∧ p.canLay0 = true ∧ p.depth ≤ n
  | .non, n, _ => ⟨.none, by rw [toPy], rfl, Nat.zero_le _⟩
  | .bl b, n, _ => ⟨.bool b, by rw [toPy], rfl, Nat.zero_le _⟩
  | .int b, n, _ => ⟨.int b, by rw [toPy], rfl, Nat.zero_le _⟩
  | .str s, n, h => ⟨.str s, by rw [toPy], (by unfold niceN at h; rw [PyData.canLay0]; exact h), Nat.zero_le _⟩
  | .lst ds, 0, h => by simp [niceN] at h
  | .tup ds, 0, h => by simp [niceN] at h
  | .lst ds, n + 1, h => by
    obtain ⟨ps, e1, e2, e3⟩ := nice_pys (ds := ds) (n := n) (by unfold niceN at h; exact h)
    exact ⟨.list ps, by rw [toPy, e1]; rfl, by rw [PyData.canLay0]; exact e2, by rw [PyData.depth]; omega⟩
  | .tup ds, n + 1, h => by
    obtain ⟨ps, e1, e2, e3⟩ := nice_pys (ds := ds) (n := n) (by unfold niceN at h; exact h)
    exact ⟨.tuple ps, by rw [toPy, e1]; rfl, by rw [PyData.canLay0]; exact e2, by rw [PyData.depth]; omega⟩
  | .box, n, h => by cases n <;> simp [niceN] at h
  | .obj _ _, n, h => by cases n <;> simp [niceN] at h
  | .dct _, n, h => by cases n <;> simp [niceN] at h
  | .cel _, n, h => by cases n <;> simp [niceN] at h
theorem nice_pys : ∀ {ds : List D} {n : Nat}, (∀ x ∈ ds, niceN n x) → ∃ ps, toPys ds = some ps ∧ PyData.canLayAll0 ps = true ∧ PyData.depthAll ps ≤ n
  | [], n, _ => ⟨[], by rw [toPys], by rw [PyData.canLayAll0], Nat.zero_le _⟩
  | d :: ds, n, h => by
    obtain ⟨p, a1, a2, a3⟩ := nice_py (h d (List.mem_cons_self ..))
    obtain ⟨ps, e1, e2, e3⟩ := nice_pys fun x hx => h x (List.mem_cons_of_mem _ hx)
    refine ⟨p :: ps, by rw [toPys, a1, e1]; rfl, by rw [PyData.canLayAll0, a2, e2]; rfl, ?_⟩
    rw [PyData.depthAll]
    exact Nat.max_le.mpr ⟨a3, e3⟩
end
theorem nice_shp {d : D} {n : Nat} (h : niceN n d) (hn : n ≤ 64) : ∃ p, toPy d = some p ∧ shp d = some p := by
  obtain ⟨p, a1, a2, a3⟩ := nice_py h
  refine ⟨p, a1, ?_⟩
  unfold shp
  rw [a1, Option.bind_some, if_pos]
  unfold SeqAt.shaped
  rw [a2, Bool.true_and]
  exact decide_eq_true (Nat.le_trans a3 hn)
theorem nice1_of {d : D} {n : Nat} (h : niceN n d) (hn : n ≤ 64 := by decide) : nice1 d := let ⟨p, _, e⟩ := nice_shp h hn; ⟨p, e⟩
theorem niceN_tup {n : Nat} {ds : List D} (h : niceN n (.tup ds)) : ∀ x ∈ ds, niceN (n - 1) x := by
  cases n with
  | zero => simp [niceN] at h
  | succ n => unfold niceN at h; exact h
theorem nice2_ofN {d : D} {n : Nat} (h : niceN n d) (hn : n ≤ 64 := by decide) : nice2 d :=
  ⟨nice1_of h hn, fun es e y hy => by subst e; exact nice1_of (niceN_tup h y hy) (by omega)⟩
theorem addL {a b : List D} (h : a.length + b.length ≤ 16777216) : mAdd (.lst a) (.lst b) = some (.lst (a ++ b)) := by
  unfold mAdd
  simp only
  rw [if_pos (show a.length + b.length ≤ sizeN from h)]
end Y
namespace Y
open PySem PySem.Spec PyProof.Rows L2
structure Pc where
  b : List Nat
  s : List Nat
  a : List Nat
def Pc.all (p : Pc) : List Nat := p.b ++ p.s ++ p.a
def wr (ps : List Pc) : List Nat := (ps.map Pc.all).flatten
def scD (es : List Ed) : D := .obj "Script" [("kept", .lst (es.map edD))]
end Y
namespace Y
open PySem PySem.Spec PyProof.Rows L2
section
variable {S S1 : SL} {w w1 w2 w3 : Bx} {d e z : D} {ds es : List D} {fa fb fo : EM} {fs : AM} {c m : Str} {mm : List D → Bx → R D}
theorem x_make {n : Nat → Bool} {mi : List D → Bx → R (List (Str × D))} {fl : List (Str × D)} (ha : fs S w = .ok ds w1) (hn : n ds.length = true) (hm : mi ds w1 = .ok fl w2) : eMake c n mi fs S w = .ok (.obj c fl) w2 := by
  unfold eMake; rw [ha, R.bind_ok, if_pos hn, hm]; rfl
theorem x_star (h : fa S w = .ok d w1) (hs : seqD d = some ds) : aStar fa S w = .ok ds w1 := by unfold aStar; rw [h, R.bind_ok, hs]; rfl
theorem x_meth {n : Nat} {r : R D} (ha : fo S w = .ok d w1) (ho : isObj c m d = true) (hb : fs S w1 = .ok ds w2) (hn : ds.length + 1 = n) (hm : mm (d :: ds) w2 = r) : eMeth c m n mm fo fs S w = r := by
  unfold eMeth; rw [ha, R.bind_ok, if_pos ho, hb, R.bind_ok, if_pos hn, hm]
theorem x_own {r : R D} (ha : fa S w = .ok d w1) (hb : fb S w1 = .ok e w2) (ho : (isCls c d && isCls c e) = true) (hm : mm [d, e] w2 = r) : eOwn c mm fa fb S w = r := by
  unfold eOwn; rw [ha, R.bind_ok, hb, R.bind_ok, if_pos ho, hm]
theorem x_enumT (h : fa S w = .ok (.tup ds) w1) : iEnumT fa S w = .ok (numbered ds) w1 := by unfold iEnumT; rw [h]; rfl
theorem x_fldI {f : Str} {fl : List (Str × D)} {i : Nat} (h : fa S w = .ok d w1) (hi : insAt S i c = some fl) (hl : fl.length < 1000 ∧ soleI S i = true) : sFldI i c f fa S w = .nx (S.set i (some (.ins c (putD f d fl)))) w1 := by
  unfold sFldI; rw [h, R.to_ok, hi]; simp only; rw [if_pos hl]
theorem x_app {i : Nat} (h : fa S w = .ok d w1) (ho : ownAt S i = some ds) (hl : ds.length < 16777216) : sAppend i fa S w = .nx (S.set i (some (.own (ds ++ [d])))) w1 := by
  unfold sAppend; rw [ho]; simp only; rw [h, R.to_ok, if_pos (show ds.length < sizeN from hl)]
end
/-- a loop whose slots are told by the items that are left -/
theorem x_forI {β : Type} {gm : GM} {body : SM} {f : β → D} (I : List β → SL → Bx → Prop) (hs : ∀ b bs S w, I (b :: bs) S w → ∃ S1 S2 w2, gm (f b) S = some S1 ∧ body S1 w = .nx S2 w2 ∧ I bs S2 w2) : ∀ (l : List β) (S : SL) (w : Bx), I l S w → ∃ S2 w2, forLoop gm body (l.map f) S w = .nx S2 w2 ∧ I [] S2 w2
  | [], S, w, h => ⟨S, w, rfl, h⟩
  | b :: bs, S, w, h => by
    obtain ⟨S1, S2, w2, h1, h2, h3⟩ := hs b bs S w h
    obtain ⟨S3, w3, h4, h5⟩ := x_forI I hs bs S2 w2 h3
    refine ⟨S3, w3, ?_, h5⟩
    show (match gm (f b) S with | none => RS.bad | some S1 => _) = _
    rw [h1]
    simp only [h2]
    exact h4
theorem sc_kept (a : D) : fldD "Script" "kept" (.obj "Script" [("kept", a)]) = some a := by
  unfold fldD
  simp only [if_true]
  simp [List.lookup]
theorem cls_self (c : Str) (fs : List (Str × D)) : isCls c (.obj c fs) = true := decide_eq_true rfl
theorem insAt_cons {c : Str} {fl : List (Str × D)} {S : SL} : insAt (some (.ins c fl) :: S) 0 c = some fl := by
  unfold insAt
  simp
theorem p_cons {f : EM} {fs : AM} {S : SL} {w : Bx} {d : D} {ds : List D} (ha : f S w = .ok d w) (hr : fs S w = .ok ds w) : aCons f fs S w = .ok (d :: ds) w := x_cons ha hr
theorem p_bin {mo : D → D → Option D} {fa fb : EM} {S : SL} {w : Bx} {d e z : D} (ha : fa S w = .ok d w) (hb : fb S w = .ok e w) (hm : mo d e = some z) : eBin mo fa fb S w = .ok z w := x_bin ha hb hm
theorem p_seq {m k : SM} {S S1 : SL} {w : Bx} {r : RS} (h : m S w = .nx S1 w) (h2 : k S1 w = r) : sSeq m k S w = r := x_seq h h2
theorem p_lc {fi : AM} {gm : GM} {tm : TM} {em : EM} {vs : List Nat} {S : SL} {w : Bx} {ds : List D} {r : R (List D)} (h : fi S w = .ok ds w) (hl : ds.length ≤ sizeN) (hr : lcLoop gm tm em (wipeS S vs) ds w = r) : oLc fi gm tm em vs S w = r := x_lc h hl hr
theorem p_any {f : EM} {S : SL} {w : Bx} {d : D} {ds : List D} (h : f S w = .ok d w) (hi : itemsOf d = some ds) : iAny f S w = .ok ds w := x_any h hi
theorem endI_ins {c : Str} {fl : List (Str × D)} {S : SL} {w : Bx} : endI c (.nx (some (.ins c fl) :: S) w) = .ok fl w := by
  unfold endI
  simp
theorem sym_ok {c : Nat} (h : AB c) : niceN 2 (.str (tx [c])) := by
  rcases h with rfl | rfl
  · rw [← lit_a]; show PyData.strOk _ = true; decide +kernel
  · rw [← lit_b]; show PyData.strOk _ = true; decide +kernel
theorem pl_nice {p : Pl} (h : PlOk p) : ∀ x ∈ [D.str (tx [p.c]), .int (p.n : Int), .str (endS p.fr)], niceN 1 x := by
  intro x hx
  simp only [List.mem_cons, List.not_mem_nil, or_false] at hx
  rcases hx with rfl | rfl | rfl
  · have := sym_ok h.1; unfold niceN at this ⊢; exact this
  · trivial
  · cases p.fr <;> (show PyData.strOk _ = true; decide +kernel)
theorem pl_isPl {p : Pl} (h : PlOk p) (h2 : p.n ≤ 2) : isPl (plD p) = true := by
  obtain ⟨c, n, fr⟩ := p
  obtain ⟨h1, h3, _⟩ := h
  have hn : n = 1 ∨ n = 2 := by simp only at h2 h3; omega
  simp only at h1
  have : isSym (.str (tx [c])) = true := by
    rcases h1 with rfl | rfl
    · rw [← lit_a]; decide +kernel
    · rw [← lit_b]; decide +kernel
  show (isSym (.str (tx [c])) && (isNum (.int (n : Int)) && (strEq "front" (.str (endS fr)) || strEq "back" (.str (endS fr))))) = true
  rw [this]
  rcases hn with rfl | rfl <;> cases fr <;> decide +kernel
theorem ed_list {e : Ed} (he : EdOk e) : ∃ a r, edD e = .tup (a :: r) ∧ r.length ≤ 2 ∧ ∀ x ∈ a :: r, niceN 2 x := by
  cases e with
  | keep => exact ⟨_, _, rfl, by simp, fun x hx => by rw [List.mem_singleton.mp hx]; show PyData.strOk _ = true; decide +kernel⟩
  | pre c => exact ⟨_, _, rfl, by simp, fun x hx => by
      simp only [List.mem_cons, List.not_mem_nil, or_false] at hx
      rcases hx with rfl | rfl
      · show PyData.strOk _ = true; decide +kernel
      · exact sym_ok he⟩
  | app c => exact ⟨_, _, rfl, by simp, fun x hx => by
      simp only [List.mem_cons, List.not_mem_nil, or_false] at hx
      rcases hx with rfl | rfl
      · show PyData.strOk _ = true; decide +kernel
      · exact sym_ok he⟩
  | at_ k p =>
    have hp : niceN 2 (plD p) := pl_nice he.2
    cases k with
    | bef c => exact ⟨_, _, rfl, by simp, fun x hx => by
        simp only [List.mem_cons, List.not_mem_nil, or_false] at hx
        rcases hx with rfl | rfl | rfl
        · show PyData.strOk _ = true; decide +kernel
        · exact hp
        · exact sym_ok he.1⟩
    | aft c => exact ⟨_, _, rfl, by simp, fun x hx => by
        simp only [List.mem_cons, List.not_mem_nil, or_false] at hx
        rcases hx with rfl | rfl | rfl
        · show PyData.strOk _ = true; decide +kernel
        · exact hp
        · exact sym_ok he.1⟩
    | rem => exact ⟨_, _, rfl, by simp, fun x hx => by
        simp only [List.mem_cons, List.not_mem_nil, or_false] at hx
        rcases hx with rfl | rfl
        · show PyData.strOk _ = true; decide +kernel
        · exact hp⟩
    | flp => exact ⟨_, _, rfl, by simp, fun x hx => by
        simp only [List.mem_cons, List.not_mem_nil, or_false] at hx
        rcases hx with rfl | rfl
        · show PyData.strOk _ = true; decide +kernel
        · exact hp⟩

def Ed2 : Ed → Prop
  | .at_ _ p => p.n ≤ 2
  | _ => True
theorem isSym_ab {c : Nat} (h : AB c) : isSym (.str (tx [c])) = true := by
  rcases h with rfl | rfl
  · rw [← lit_a]; decide +kernel
  · rw [← lit_b]; decide +kernel
theorem edB_word (w : Str) (b1 b2 b3 b4 : Bool) (r : List D) (h1 : strEq "keep" (.str w) = b1) (h2 : (strEq "prepend" (.str w) || strEq "append" (.str w)) = b2) (h3 : (strEq "before" (.str w) || strEq "after" (.str w)) = b3) (h4 : (strEq "remove" (.str w) || strEq "flip" (.str w)) = b4) : isEdD (.str w :: r) = isEdB b1 b2 b3 b4 r := by
  subst h1 h2 h3 h4; rfl
theorem ed_is {e : Ed} (he : EdOk e) (h2 : Ed2 e) : ∃ ds, edD e = .tup ds ∧ (∀ x ∈ ds, niceN 2 x) ∧ isEdD ds = true := by
  obtain ⟨a, r, e1, _, e3⟩ := ed_list he
  refine ⟨a :: r, e1, e3, ?_⟩
  cases e with
  | keep => cases e1; rw [edB_word "keep" true false false false _ (by decide +kernel) (by decide +kernel) (by decide +kernel) (by decide +kernel)]; rfl
  | pre c => cases e1; rw [edB_word "prepend" false true false false _ (by decide +kernel) (by decide +kernel) (by decide +kernel) (by decide +kernel)]; exact isSym_ab he
  | app c => cases e1; rw [edB_word "append" false true false false _ (by decide +kernel) (by decide +kernel) (by decide +kernel) (by decide +kernel)]; exact isSym_ab he
  | at_ k p =>
    have hp := pl_isPl he.2 h2
    cases k with
    | bef c => cases e1; rw [edB_word "before" false false true false _ (by decide +kernel) (by decide +kernel) (by decide +kernel) (by decide +kernel)]; show (isPl (plD p) && isSym (.str (tx [c]))) = true; rw [hp, isSym_ab he.1]; rfl
    | aft c => cases e1; rw [edB_word "after" false false true false _ (by decide +kernel) (by decide +kernel) (by decide +kernel) (by decide +kernel)]; show (isPl (plD p) && isSym (.str (tx [c]))) = true; rw [hp, isSym_ab he.1]; rfl
    | rem => cases e1; rw [edB_word "remove" false false false true _ (by decide +kernel) (by decide +kernel) (by decide +kernel) (by decide +kernel)]; exact hp
    | flp => cases e1; rw [edB_word "flip" false false false true _ (by decide +kernel) (by decide +kernel) (by decide +kernel) (by decide +kernel)]; exact hp
theorem ixN_nat {n i : Nat} (h : i < n) : ixN n (i : Int) = some i := by
  unfold ixN
  rw [if_pos (by omega), if_pos (by omega)]; simp
theorem x_put {i : Nat} {fi f : EM} {S : SL} {w w1 w2 : Bx} {d : D} {ds : List D} {n : Nat} (h : f S w = .ok d w1) (ho : ownAt S i = some ds) (hi : fi S w1 = .ok (.int (n : Int)) w2) (hn : n < ds.length) : sPut i fi f S w = .nx (S.set i (some (.own (ds.set n d)))) w2 := by
  unfold sPut; rw [h, R.to_ok, ho]; simp only; rw [hi, R.to_ok]; simp only; rw [ixN_nat hn]
theorem x_forW {gm : GM} {body : SM} {w : Bx} (I : SL → Prop) : ∀ (ds : List D) (S : SL), I S → (∀ x ∈ ds, ∀ S, I S → ∃ S1 S2, gm x S = some S1 ∧ body S1 w = .nx S2 w ∧ I S2) → ∃ S2, forLoop gm body ds S w = .nx S2 w ∧ I S2
  | [], S, h, _ => ⟨S, rfl, h⟩
  | x :: ds, S, h, hb => by
    obtain ⟨S1, S2, h1, h2, h3⟩ := hb x (List.mem_cons_self ..) S h
    obtain ⟨S3, h4, h5⟩ := x_forW I ds S2 h3 fun y hy => hb y (List.mem_cons_of_mem _ hy)
    refine ⟨S3, ?_, h5⟩
    show (match gm x S with | none => RS.bad | some S1 => _) = _
    rw [h1]
    simp only [h2]; exact h4
theorem num_mem {ds : List D} {x : D} (h : x ∈ numbered ds) : ∃ (i : Nat) (d : D), x = .tup [.int (i : Int), d] ∧ d ∈ ds := by
  obtain ⟨i, hi⟩ := List.getElem?_of_mem h
  obtain ⟨d, hd, rfl⟩ := num_get hi
  exact ⟨i, d, rfl, List.mem_of_getElem? hd⟩
theorem list_ex {P : Ed → Prop} : ∀ (ys : List D), (∀ y ∈ ys, ∃ e, y = edD e ∧ P e) → ∃ es : List Ed, ys = es.map edD ∧ ∀ e ∈ es, P e
  | [], _ => ⟨[], rfl, fun _ h => nomatch h⟩
  | y :: ys, h => by
    obtain ⟨e, rfl, he⟩ := h y (List.mem_cons_self ..)
    obtain ⟨es, rfl, hes⟩ := list_ex ys fun z hz => h z (List.mem_cons_of_mem _ hz)
    exact ⟨e :: es, rfl, fun x hx => by
      rcases List.mem_cons.mp hx with rfl | hx
      · exact he
      · exact hes x hx⟩
def Ed12 (e : Ed) : Prop := EdOk e ∧ Ed2 e
end Y
namespace Y
open PySem PySem.Spec PyProof.Rows L2
structure Mk' where
  o : Int
  w : Bool
  s : List Nat
end Y
namespace Y
open PySem PySem.Spec PyProof.Rows L2
def m0 : Mk' := ⟨0, false, []⟩
end Y
namespace Y
open PySem PySem.Spec PyProof.Rows L2
/-- where the n-th piece of the middle trace starts in the last one -/
def off (h : Nat) (bp : List Pc) (n : Nat) : Nat := h + (wr (bp.take n)).length
end Y
namespace Y
open PySem PySem.Spec PyProof.Rows L2
theorem nice_tupl {n : Nat} {ds : List D} (h : ∀ x ∈ ds, niceN n x) : niceN (n + 1) (.tup ds) := by unfold niceN; exact h
theorem nice_cons {n : Nat} {d : D} {ds : List D} (h : niceN n d) (t : ∀ x ∈ ds, niceN n x) : ∀ x ∈ d :: ds, niceN n x := fun x hx => by
  rcases List.mem_cons.mp hx with rfl | hx
  · exact h
  · exact t x hx
theorem nice_nil {n : Nat} : ∀ x ∈ ([] : List D), niceN n x := fun _ h => nomatch h
end Y
namespace Y
open PySem PySem.Spec PyProof.Rows L2
end Y
namespace Y
open PySem PySem.Spec PyProof.Rows L2
theorem x_enum {fa : EM} {S : SL} {w w1 : Bx} {d : D} {ds : List D} (h : fa S w = .ok d w1) (he : enumOf d = some ds) : iEnumD fa S w = .ok ds w1 := by unfold iEnumD; rw [h, R.bind_ok, he]; rfl
end Y
namespace Y
open PySem PySem.Spec PyProof.Rows L2
end Y
namespace Y
open PySem PySem.Spec PyProof.Rows L2
end Y
namespace Y
open PySem PySem.Spec PyProof.Rows L2
end Y
namespace Y
open PySem PySem.Spec PyProof.Rows L2
end Y
namespace Y
open PySem PySem.Spec PyProof.Rows L2
theorem exmFive {M : Model} {K : PySem.W.Frag} {c1 c2 c3 c4 c5 cls : Value} {tp e : Addr} {b : Bool} {h : Heap} (KX : K.In h) (ty : PySem.W.Looks M h (typeOf (.ref e)) cls) (tup : h.get? tp = some { cls := .type "tuple", data := .seq [c1, c2, c3, c4, c5].toArray })
    (hx : PySem.W.exmAny K cls [c1, c2, c3, c4, c5] = some b) : PySem.W.Looks M h (excMatches (.ref e) (.ref tp)) b := by
  intro A Q E s kk q
  obtain ⟨hh, gg, dd, tt, oo⟩ := s
  have kp : ∀ x y, h.get? x = some y → hh.get? x = some y := kk
  have isT : PySem.W.Looks M h (isInstance (.ref tp) (.type "tuple")) true := ((PySem.W.Looks.ld tup).andThen .now).andThen (PySem.W.Looks.of_pure PySem.isSubtype_tuple_tuple)
  obtain ⟨p1, r1, m1, n1, f1⟩ := PySem.W.exmAny_cons hx
  obtain ⟨p2, r2, m2, n2, f2⟩ := PySem.W.exmAny_cons n1
  obtain ⟨p3, r3, m3, n3, f3⟩ := PySem.W.exmAny_cons n2
  obtain ⟨p4, r4, m4, n4, f4⟩ := PySem.W.exmAny_cons n3
  obtain ⟨p5, r5, m5, n5, f5⟩ := PySem.W.exmAny_cons n4
  have n5 : some false = some r5 := n5
  cases n5
  obtain ⟨i1, j1⟩ := PySem.W.exm_cls (M := M) KX m1
  obtain ⟨i2, j2⟩ := PySem.W.exm_cls (M := M) KX m2
  obtain ⟨i3, j3⟩ := PySem.W.exm_cls (M := M) KX m3
  obtain ⟨i4, j4⟩ := PySem.W.exm_cls (M := M) KX m4
  obtain ⟨i5, j5⟩ := PySem.W.exm_cls (M := M) KX m5
  replace i1 := i1.keeps kp; replace j1 := j1.keeps kp
  replace i2 := i2.keeps kp; replace j2 := j2.keeps kp
  replace i3 := i3.keeps kp; replace j3 := j3.keeps kp
  replace i4 := i4.keeps kp; replace j4 := j4.keeps kp
  replace i5 := i5.keeps kp; replace j5 := j5.keeps kp
  replace ty := ty.keeps kp; replace isT := isT.keeps kp
  replace tup := kp _ _ tup
  subst f1 f2 f3 f4 f5
  unfold excMatches
  refine wpAny_bind (isT.at ?_); dsimp only; rw [if_pos rfl]
  first
    | refine wpAny_bind (wpAny_seqItems tup rfl ?_); dsimp only [Option.getD_some, Option.getD]
    | refine wpAny_bind (wpAny_bind (wpAny_seqItems tup rfl (wpAny_pure ?_))); dsimp only [Option.getD_some, Option.getD]
  cases p1 <;> cases p2 <;> cases p3 <;> cases p4 <;> cases p5 <;> ((repeat (first | simp only [List.forIn_cons, List.forIn_nil, Bool.not_true, Bool.false_eq_true, if_false, if_true] | lk)); exact q)
/-- the test of a clause: it answers for the classes cs -/
def TestE (X : Cx) (t : Expr) (cs : List Value) : Prop := ∀ {a : Addr} {oe : Obj} {pn pins : List (Addr × Obj)} {σ : L2.St} {H : Hp} {s : Shared} {Q : Value → Shared → Prop} {E : Value → Shared → Prop}, Inv (X.suite a ((a, oe) :: pn)) pins σ H s →
  (∀ c' h', (∀ x y, s.heap.get? x = some y → h'.get? x = some y) → (∀ cls b e, PySem.W.Looks (model X.prog X.w) h' (typeOf (.ref e)) cls → PySem.W.exmAny X.K cls cs = some b → PySem.W.Looks (model X.prog X.w) h' (excMatches (.ref e) c') b) → Q c' { s with heap := h' }) →
  wpAny (model X.prog X.w) (X.A.mark (some (.ref a))) (eval t X.env) Q E s
theorem test_one {X : Cx} {x : Str} {c : Value} {np : Pos} (hg : Gl X x) (hm : X.mg x = some c) (hd : (x == ("__debug__" : Str)) = false := by decide) : TestE X (.Name x np) [c] := by
  intro a oe pn pins σ H s Q E I h
  refine ld_glob (X := X.suite a ((a, oe) :: pn)) I hg hm (h c s.heap (fun _ _ q => q) fun cls b e ty hx => ?_) hd
  obtain ⟨p1, r1, m1, n1, f1⟩ := PySem.W.exmAny_cons hx
  have n1 : some false = some r1 := n1
  cases n1
  rw [f1, Bool.or_false]
  exact PySem.W.exm_one I.kIn ty m1
/-- the names of a tuple -/
inductive NmsOk (X : Cx) : List Expr → List Value → Prop
  | nil : NmsOk X [] []
  | cons {x : Str} {c : Value} {np : Pos} {es : List Expr} {cs : List Value} (hg : Gl X x) (hm : X.mg x = some c) (hd : (x == ("__debug__" : Str)) = false) (r : NmsOk X es cs) : NmsOk X (.Name x np :: es) (c :: cs)
theorem nms_run {X : Cx} {a : Addr} {oe : Obj} {pn pins : List (Addr × Obj)} {σ : L2.St} {H : Hp} {s : Shared} {E : Value → Shared → Prop} {pos : Pos} (I : Inv (X.suite a ((a, oe) :: pn)) pins σ H s) : ∀ {es : List Expr} {cs : List Value}, NmsOk X es cs → ∀ {Q : List Value → Shared → Prop}, Q cs s → wpAny (model X.prog X.w) (X.A.mark (some (.ref a))) (spliced (backTo pos (starEach es X.env))) Q E s := by
  intro es cs hn
  induction hn with
  | nil => intro Q q; exact Calls.spliced_nil q
  | @cons x c np es cs hg hm hd r ih =>
    intro Q q
    have e : backTo pos (starEach (.Name x np :: es) X.env) = (false, eval (.Name x np) X.env) :: backTo pos (starEach es X.env) := by rfl
    rw [e]
    exact Calls.spliced_cons (ld_glob (X := X.suite a ((a, oe) :: pn)) I hg hm (wpAny_mono (ih (Q := fun us s1 => us = cs ∧ s1 = s) ⟨rfl, rfl⟩) (fun us s1 h => by obtain ⟨rfl, rfl⟩ := h; exact q) fun _ _ z => z) hd)
theorem test_tup {X : Cx} {es : List Expr} {cs : List Value} {k : Nat} {tpos : Pos} (hn : NmsOk X es cs) (h2 : 2 ≤ cs.length) (h5 : cs.length ≤ 5) : TestE X (.Tuple es k tpos) cs := by
  intro a oe pn pins σ H s Q E I h
  refine wpAny_Tuple_spliced (nms_run I hn ⟨Nat.le_trans h5 (by rw [sizeLine_eq]; decide), h _ _ (fun x y q => Heap.get?_push_of_some _ q) fun cls b e ty hx => ?_⟩)
  have KX : X.K.In (s.heap.push { cls := .type "tuple", data := .seq cs.toArray }) := I.kIn.keeps fun x y q => Heap.get?_push_of_some _ q
  have at_ : (s.heap.push ({ cls := .type "tuple", data := .seq cs.toArray } : Obj)).get? s.heap.objs.size = some ({ cls := .type "tuple", data := .seq cs.toArray } : Obj) := Heap.get?_push_size _ rfl
  match cs, h2, h5, hx, KX, at_, ty with
  | [_, _], _, _, hx, KX, at_, ty => exact PySem.W.exm_tup2 KX ty at_ hx
  | [_, _, _], _, _, hx, KX, at_, ty => exact PySem.W.exm_tup3 KX ty at_ hx
  | [_, _, _, _], _, _, hx, KX, at_, ty => exact PySem.W.exm_tup4 KX ty at_ hx
  | [_, _, _, _, _], _, _, hx, KX, at_, ty => exact exmFive KX ty at_ hx
/-- behind a suite the name is unbound -/
def endsAs (i : Nat) (D : Ends) : Ends := { nx := fun σ' H' => D.nx (σ'.set i none) H', rt := D.rt, bk := fun σ' H' => D.bk (σ'.set i none) H', ct := fun σ' H' => D.ct (σ'.set i none) H' }
/-- what the clauses wish of an exception of the body -/
def wClauses (K : PySem.W.Frag) (i : Nat) (Wout : WX) (D : Ends) : List (List Value × (Addr → Value → Option Addr → TS)) → WX
  | [] => Wout
  | (cs, ts) :: r => fun cls d σ H => ∃ b, PySem.W.exmAny K cls cs = some b ∧ (b = true → ∀ a, H a = none → ts a cls d (endsAs i D) (σ.set i (some (.ref a))) H) ∧ (b = false → wClauses K i Wout D r cls d σ H)
inductive ClsOk (X : Cx) (n : Str) : List ExceptHandler → List (List Value × (Addr → Value → Option Addr → TS)) → Prop
  | nil : ClsOk X n [] []
  | cons {t : Expr} {cs : List Value} {ts : Addr → Value → Option Addr → TS} {b₀ : Stmt} {suite : List Stmt} {cpos : Pos} {hds : List ExceptHandler} {l : List (List Value × (Addr → Value → Option Addr → TS))} (ht : TestE X t cs)
      (hsu : ∀ (a : Addr) (oe : Obj) (cls : Value) (d : Option Addr) (pn : List (Addr × Obj)), Zc cls d oe → (∃ vs, oe.data = .fields vs) → PSs (X.suite a ((a, oe) :: pn)) (b₀ :: suite) (ts a cls d)) (r : ClsOk X n hds l) :
      ClsOk X n (.ExceptHandler (some t) (some n) (b₀ :: suite) cpos :: hds) ((cs, ts) :: l)
theorem flying_grow {B h h' : Heap} {l : List Env} {e : Addr} {Z : Obj → Prop} (x : HandSPX.FlyingZ B l e Z h) (k : ∀ b o, h.get? b = some o → h'.get? b = some o) : HandSPX.FlyingZ B l e Z h' := by
  obtain ⟨x1, x2, x3, oe, vs, T, oT, ts, q1, q2, q3, q4, q5, q6, q7, q8⟩ := x
  exact ⟨fun b o q => k b o (x1 b o q), x2, x3.of_keeps fun b o q _ => ⟨o, k b o q, rfl⟩, oe, vs, T, oT, ts, k _ _ q1, q2, q3, q4, q5, q6, k _ _ q7, q8⟩
theorem upTo_grow {h h' : Heap} (k : ∀ b o, h.get? b = some o → h'.get? b = some o) : h.UpToSlots h' := fun b o q _ => ⟨o.slots, k b o q⟩
section
variable {X : Cx} {body : List Stmt} {n : Str} {i : Nat} {h₀ : ExceptHandler} {hds : List ExceptHandler} {l : List (List Value × (Addr → Value → Option Addr → TS))} {pos : Pos} {tb : WX → TS} {Wout : WX}
theorem clauses_run {pins : List (Addr × Obj)} {σ' : L2.St} {H' : Hp} {sI : Shared} {D : Ends} {B : Heap} {a : Addr} {cls : Value} {d : Option Addr} (hs : X.stack = X.env :: X.outer) (hf : X.env.frame = some X.env.locals) (hN : X.N.Nodup) (hi : X.N[i]? = some n) (hln : X.env.kindOf n = some .local) (tk : Takes X Wout) (ok : X.Ok)
    (J : Inv X pins σ' H' sI) (nb : ∀ b o, sI.heap.get? b = some o → b ∉ frs X.stack → B.get? b = some o) (na : H' a = none) : ∀ {hds : List ExceptHandler} {l : List (List Value × (Addr → Value → Option Addr → TS))}, ClsOk X n hds l → ∀ {s' : Shared}, s'.os = sI.os → AllBare s'.gens → sI.heap.UpToSlots s'.heap → HandSPX.FlyingZ B (X.env :: X.outer) a (Zc cls d) s'.heap →
    wClauses X.K i Wout D l cls d σ' H' → wpAny (model X.prog X.w) X.A (handleBy (.ref a) X.env hds) (SP X pins D) X.xe s' := by
  intro hds l hk
  induction hk with
  | nil =>
    intro s' os ag up fl w
    refine wpAny_handleBy_nil ?_
    obtain ⟨_, _, _, oe, vs, T, oT, ts', g1, _, g3, g4, _⟩ := id fl
    unfold PySem.passOn
    refine wpAny_bind (wpAny_field g1 g3 g4 ?_)
    rw [if_neg (show ¬ ((Value.ref T == Value.none) = true) from by simp)]
    have last : wpAny (model X.prog X.w) X.A (setFlight (.ref a) X.env.frame) (fun _ s4 => wpAny (model X.prog X.w) X.A (throw (.ref a) : Sem Flow) (SP X pins D) X.xe s4) X.xe s' := by
      rw [hf]
      refine HandSPX.setFlight_upZ fl fun h4 hh4 up4 => wpAny_throw (tk _ _ ⟨a, B, sI, pins, σ', H', cls, d, rfl, J, nb, up.trans up4, .inr (.inr (by rw [hs]; exact hh4)), na, os, ag, w⟩)
    first
      | exact wpAny_bind (wpAny_pure (wpAny_bind last))
      | exact wpAny_bind last
  | @cons t cs ts b₀ suite cpos hds2 l2 ht hsu r ih =>
    intro s' os ag up fl w
    obtain ⟨b, hb, yes, no⟩ := w
    have away : ∀ {h : Heap} {o : Obj} {vs : Array Value}, h.FunFrames B (X.env :: X.outer) → h.get? a = some o → o.data = .fields vs → a ∉ frs (X.env :: X.outer) := fun {h o vs} ff e1 e2 hm => by
      obtain ⟨_, o2, e3, e4⟩ := ff.mem hm
      rw [e1] at e3; cases e3
      exact e4 _ e2
    have J3 : Inv X pins σ' H' s' := J.landed nb fl.1 up os ag
    obtain ⟨oe, vs, he, hz, hd⟩ := fl.there
    have nfr := away fl.2.2.1 he hd
    have nL : a ≠ X.env.locals := fun z => nfr (List.mem_filterMap.mpr ⟨X.env, List.mem_cons_self, by rw [hf, z]⟩)
    have nF : a ∉ X.fs := fun hm => by
      obtain ⟨e, he, q⟩ := List.mem_filterMap.mp hm
      exact nfr (List.mem_filterMap.mpr ⟨e, List.mem_cons_of_mem _ he, q⟩)
    refine PySem.W.exc_clause_as (ht (J3.suite he hd na nL nF) fun c' h' kp mt => ?_)
    have fl' := flying_grow fl kp
    have up' := up.trans (upTo_grow kp)
    refine ⟨b, mt cls b a (fun A Q E s k q => wpAny_typeOf_ref (k _ _ (kp _ _ he)) (by rw [hz.1]; exact q)) hb, ?_⟩
    cases b with
    | false => exact ih os ag up' fl' (no rfl)
    | true =>
      refine HandSPX.lands_againZ fl' fun h4 fl4 up4 => ?_
      have J4 : Inv X pins σ' H' { s' with heap := h4 } := J.landed nb fl4.1 (up'.trans up4) os ag
      obtain ⟨oe4, vs4, he4, hz4, hd4⟩ := fl4.there
      refine store_ok (X := X.suite a ((a, oe4) :: (X.pn ++ pins))) (v := .ref a) (J4.suite he4 hd4 na nL nF) hN hi (.inl hln) rfl (fun s5 S5 => ?_) (.inr hln)
      refine wpAny_mono ((hsu a oe4 cls d (X.pn ++ pins) hz4 ⟨_, hd4⟩).run [] s5 _ H' _ S5 (yes rfl a na)) (fun f s6 hsp => ?_) (fun _ _ z => False.elim z)
      have fin : ∀ {σ6 : L2.St} {H6 : Hp} {Q : Shared → Prop}, Inv (X.suite a ((a, oe4) :: (X.pn ++ pins))) [] σ6 H6 s6 → (∀ s7, Inv X pins (σ6.set i none) H6 s7 → Q s7) →
          wpAny (model X.prog X.w) X.A (do bindName X.env n .none; unbindBehindTheSuite X.env n cpos) (fun _ s7 => Q s7) X.xe s6 := fun {σ6 H6 Q} S6 hq => gone_ok (S6.unsuite ok) hN hi hln hq
      cases f with
      | next => obtain ⟨σ6, H6, S6, q6⟩ := hsp; exact fin S6 fun s7 J7 => ⟨_, _, J7, q6⟩
      | brk => obtain ⟨σ6, H6, S6, q6⟩ := hsp; exact fin S6 fun s7 J7 => ⟨_, _, J7, q6⟩
      | cont => obtain ⟨σ6, H6, S6, q6⟩ := hsp; exact fin S6 fun s7 J7 => ⟨_, _, J7, q6⟩
      | ret u => obtain ⟨v6, σ6, H6, S6, r6, q6⟩ := hsp; exact fin S6 fun s7 J7 => ⟨_, _, _, J7, r6, q6⟩
/-- try: .. except (A, B) as n: .. except C as n: .. -/
theorem ps_tryAs (hs : X.stack = X.env :: X.outer) (hf : X.env.frame = some X.env.locals) (hN : X.N.Nodup) (hi : X.N[i]? = some n) (hln : X.env.kindOf n = some .local) (tk : Takes X Wout)
    (hb : ∀ (W : WX) (pn : List (Addr × Obj)) (xe : Value → Shared → Prop), Takes (X.tr pn xe) W → PassesOwn (model X.prog X.w) X.A X.env xe → PSs (X.tr pn xe) body (tb W)) (hh : ClsOk X n (h₀ :: hds) l) :
    PS X (.Try body (h₀ :: hds) [] [] pos) (fun D σ H => tb (wClauses X.K i Wout D l) D σ H) := by
  refine ⟨fun pins s σ H D I h => ?_⟩
  have ok := I.ok
  have hfr : X.A.frames = some (X.env :: X.outer) := by rw [ok.frames, hs]
  refine wpAny_Try_except ?_
  have run := (hb (wClauses X.K i Wout D l) (X.pn ++ pins) (fun e s₁ => wpAny (model X.prog X.w) X.A (noteFrame e X.env) (fun _ s₂ => wpAny (model X.prog X.w) X.A (setFlight e none) (fun _ s₃ => wpAny (model X.prog X.w) X.A (handleBy e X.env (h₀ :: hds)) (SP X pins D) X.xe s₃) X.xe s₂) X.xe s₁) (fun u s' xx => by
      obtain ⟨a, B, sI, pins', σ', H', cls, d, rfl, J', nb, up, sky, na, os, ag, w⟩ := xx
      have sky2 : Sky B (X.env :: X.outer) a (Zc cls d) X.env.locals s'.heap := by rw [← hs]; exact sky
      show wpAny (model X.prog X.w) X.A (noteFrame (.ref a) X.env) _ _ _
      exact Sky.land Zc.steady hfr hf sky2 fun h3 fl3 up3 => clauses_run (B := B) hs hf hN hi hln tk ok (J'.ofTry ok) nb na hh (s' := { s' with heap := h3 }) os ag (up.trans up3) fl3 w) PassesOwn.looking).run [] s σ H D (I.toTry _) h
  refine wpAny_mono run (fun f s1 hsp => ?_) (fun e s1 he => he)
  cases f with
  | next => obtain ⟨σ', H', J', q⟩ := hsp; exact wpAny_execs_nil ⟨σ', H', J'.ofTry ok, q⟩
  | brk => obtain ⟨σ', H', J', q⟩ := hsp; exact ⟨σ', H', J'.ofTry ok, q⟩
  | cont => obtain ⟨σ', H', J', q⟩ := hsp; exact ⟨σ', H', J'.ofTry ok, q⟩
  | ret u => obtain ⟨v, σ', H', J', r, q⟩ := hsp; exact ⟨v, σ', H', J'.ofTry ok, r, q⟩
end
end Y
namespace Y
open PySem PySem.Spec PyProof.Rows L2
/-- a base: its own __new__, the mro from it on -/
structure XB where
  B : String
  newI : String
  iniI : String
  tl : List Value
def xbV : XB := ⟨"ValueError", "ValueError.__new__", "ValueError.__init__", [.type "ValueError", .type "Exception", .type "BaseException", .type "object"]⟩
structure XbOk (b : XB) : Prop where
  F : ExcBaseFacts b.B b.newI b.iniI b.tl
  pass : ∀ self, refuseLoop self "__setattr__" b.tl = pure ()
  obj : b.tl.contains (.type "object") = true
  ne : b.tl ≠ []
theorem xbV_ok : XbOk xbV := ⟨PySem.F.excBase_ValueError, PySem.F.store_ValueError.passes, by decide +kernel, by decide⟩
theorem refsT_cases {tl : List Value} : ∀ l : List Value, refsT tl l = true → (∃ c r, l = .ref c :: r ∧ refsT tl r = true) ∨ l = tl
  | [], e => .inr (beq_iff_eq.mp e)
  | x :: r, e => by
    cases x with
    | ref c => exact .inl ⟨c, r, rfl, e⟩
    | _ => exact .inr (beq_iff_eq.mp e)
theorem refsT_pass {b : XB} (O : XbOk b) (self : Value) : ∀ l : List Value, refsT b.tl l = true → refuseLoop self "__setattr__" l = pure () := by
  intro l
  induction l with
  | nil =>
    intro e
    rcases refsT_cases [] e with ⟨c, r, q, _⟩ | q
    · cases q
    · rw [q]; exact O.pass self
  | cons x r ih =>
    intro e
    rcases refsT_cases (x :: r) e with ⟨c, r', q, h⟩ | q
    · obtain ⟨rfl, rfl⟩ := List.cons.inj q
      rw [refuseLoop_ref]; exact ih h
    · rw [q]; exact O.pass self
theorem refsT_has {tl : List Value} (X : String) : ∀ l : List Value, refsT tl l = true → l.contains (.type X) = tl.contains (.type X) := by
  intro l
  induction l with
  | nil =>
    intro e
    rcases refsT_cases [] e with ⟨c, r, q, _⟩ | q
    · cases q
    · rw [q]
  | cons x r ih =>
    intro e
    rcases refsT_cases (x :: r) e with ⟨c, r', q, h⟩ | q
    · obtain ⟨rfl, rfl⟩ := List.cons.inj q
      rw [List.contains_cons, ih h]; rfl
    · rw [q]
section
open PySem.W PySem.Calls PySem.HandSPX Builtin Builtin.ObjectAttr
variable {prog : Program} {w : World} {A : Around} {E : Value → Shared → Prop} {R : Result → Shared → Prop} {hp : Heap} {g : Array GenState} {d : Drawn} {t : Nat} {os : OsState} {b : XB}
/-- a field of an exception: its dict is made, or it is there -/
theorem osaT_old {K : PySem.W.Frag} {name : Str} {tk : Tok} {v : Value} {x C dx : Addr} {fv : Array Value} {cd : ClassData} {m0 : Str → Option Value} {nl : List Str} (O : XbOk b)
    (X : K.In hp) (hx : hp.get? x = some { cls := .ref C, dict := some dx, data := .fields fv }) (hns : hp.Ns1 dx m0) (hw : Within m0 nl) (hz : nl.length ≤ 1000) (hcd : PySem.W.clsIn K C = some cd) (hm : refsT b.tl cd.mro = true) (hn0 : cd.mro ≠ []) (hh : cd.hasDict = true)
    (ha : PySem.W.findIn K (.ref C) name = some none)
    (hq : ∀ h' tk', (∀ b o, b ≠ dx → hp.get? b = some o → h'.get? b = some o) → h'.Ns1 dx (fun y => if y = name then some v else m0 y) → R (.ok (.ret .none)) ⟨h', g, d, tk', os⟩) :
    codeAny (model prog w) A (.call (.builtin "object.__setattr__") ⟨[.ref x, .str name tk, v], []⟩) R ⟨hp, g, d, t, os⟩ := by
  obtain ⟨oD, esD, epD, hoD, hdD, _⟩ := hns.count hw
  have I : PySem.W.InstAt hp x { cls := .ref C, dict := some dx, data := .fields fv } C (some oD) := ⟨hx, rfl, rfl, hoD⟩
  have SF := F.store_object
  have hob : cd.mro.contains (.type "object") = true := (refsT_has "object" _ hm).trans O.obj
  have hie : cd.mro.isEmpty = false := by cases h : cd.mro with | nil => exact absurd h hn0 | cons _ _ => rfl
  have sub : PySem.W.Looks (model prog w) hp (isInstance (.ref x) (.type "object")) true := I.type.andThen (PySem.W.looks_mroIn X (by unfold PySem.W.mroIn; rw [hcd, Option.bind_some, if_neg (by rw [hie]; decide), hob]))
  refine codeAny_call_builtin SF.slot.plain SF.entry (@PySem.W.check_slot (model prog w) _ _ ⟨hp, g, d, t, os⟩ "object.__setattr__" "object" "__setattr__" (.ref x) [.str name tk, v] [] _ SF.kind SF.split sub (SF.args (.ref x) (.str name tk) v) ?_)
  have hmr : PySem.W.Looks (model prog w) hp (mroOf (.ref C)) cd.mro := (PySem.W.looks_clsIn X hcd).andThen .now
  have L3 : PySem.W.Looks (model prog w) hp (storeTaker? none) none := .now
  have hcls : PySem.W.Looks (model prog w) hp (classData C) cd := PySem.W.looks_clsIn X hcd
  rw [PySem.W.osa_eq, refuse_eq]
  refine wpAny_bind (wpAny_bind (I.type.at (wpAny_bind (hmr.at ?_))))
  rw [refsT_pass O _ _ hm]
  refine wpAny_pure (wpAny_bind (I.type.at (wpAny_bind ((PySem.W.looks_findIn X ha).at (wpAny_bind (L3.at ?_))))))
  show wpAny _ _ (storeInOwnDict (.ref x) (.ref C) (.str name tk) name v false) _ _ _
  obtain ⟨nm, bs, mro, ns, qn, hd, sn, sb, ab, col, del⟩ := cd
  dsimp only at hh
  subst hh
  unfold storeInOwnDict ownDictForStores
  repeat (first | with_reducible refine PySem.OEX.store_in_old hns hw hz ?_ | with_reducible refine wpAny_loadPart_at hx ?_ | with_reducible refine hcls.at ?_ | wp_step)
  intro h' tk' hn' hs
  exact hq h' tk' (fun b o hb ho => (hs.2 b hb).trans ho) hn'
theorem osaT_new {K : PySem.W.Frag} {name : Str} {tk : Tok} {v : Value} {x C : Addr} {fv : Array Value} {cd : ClassData} (O : XbOk b)
    (X : K.In hp) (hx : hp.get? x = some { cls := .ref C, data := .fields fv }) (hcd : PySem.W.clsIn K C = some cd) (hm : refsT b.tl cd.mro = true) (hn0 : cd.mro ≠ []) (hh : cd.hasDict = true) (ha : PySem.W.findIn K (.ref C) name = some none)
    (hq : ∀ h' tk' dx, (∀ b o, b ≠ x → hp.get? b = some o → h'.get? b = some o) → hp.objs.size ≤ dx → dx ≠ x → h'.get? x = some { cls := .ref C, dict := some dx, data := .fields fv } →
      h'.Ns1 dx (fun y => if y = name then some v else none) → R (.ok (.ret .none)) ⟨h', g, d, tk', os⟩) :
    codeAny (model prog w) A (.call (.builtin "object.__setattr__") ⟨[.ref x, .str name tk, v], []⟩) R ⟨hp, g, d, t, os⟩ := by
  have I : PySem.W.InstAt hp x { cls := .ref C, data := .fields fv } C none := ⟨hx, rfl, rfl, trivial⟩
  have SF := F.store_object
  have hob : cd.mro.contains (.type "object") = true := (refsT_has "object" _ hm).trans O.obj
  have hie : cd.mro.isEmpty = false := by cases h : cd.mro with | nil => exact absurd h hn0 | cons _ _ => rfl
  have hxs : x ≠ hp.objs.size := Nat.ne_of_lt (Heap.lt_size hx)
  have sub : PySem.W.Looks (model prog w) hp (isInstance (.ref x) (.type "object")) true := I.type.andThen (PySem.W.looks_mroIn X (by unfold PySem.W.mroIn; rw [hcd, Option.bind_some, if_neg (by rw [hie]; decide), hob]))
  refine codeAny_call_builtin SF.slot.plain SF.entry (@PySem.W.check_slot (model prog w) _ _ ⟨hp, g, d, t, os⟩ "object.__setattr__" "object" "__setattr__" (.ref x) [.str name tk, v] [] _ SF.kind SF.split sub (SF.args (.ref x) (.str name tk) v) ?_)
  have hmr : PySem.W.Looks (model prog w) hp (mroOf (.ref C)) cd.mro := (PySem.W.looks_clsIn X hcd).andThen .now
  have L3 : PySem.W.Looks (model prog w) hp (storeTaker? none) none := .now
  have hcls : PySem.W.Looks (model prog w) hp (classData C) cd := PySem.W.looks_clsIn X hcd
  rw [PySem.W.osa_eq, refuse_eq]
  refine wpAny_bind (wpAny_bind (I.type.at (wpAny_bind (hmr.at ?_))))
  rw [refsT_pass O _ _ hm]
  refine wpAny_pure (wpAny_bind (I.type.at (wpAny_bind ((PySem.W.looks_findIn X ha).at (wpAny_bind (L3.at ?_))))))
  show wpAny _ _ (storeInOwnDict (.ref x) (.ref C) (.str name tk) name v false) _ _ _
  obtain ⟨nm, bs, mro, ns, qn, hd, sn, sb, ab, col, del⟩ := cd
  dsimp only at hh
  subst hh
  unfold storeInOwnDict ownDictForStores
  repeat (first | with_reducible refine store_in_new ?_ ?_ | with_reducible refine wpAny_loadPart_at hx ?_ | with_reducible refine hcls.at ?_ | wp_step)
  · exact ⟨_, #[], _, (Heap.get?_update_ne _ _ _ _ hxs.symm).trans (Heap.get?_push_at rfl rfl), rfl, fun e he => absurd he (by simp), fun _ => rfl⟩
  · intro h' tk' hn' hs
    have hx₁ : (hp.push { cls := .type "dict", data := .dict #[] }).get? x = some { cls := .ref C, data := .fields fv } := Heap.get?_push_of_some _ hx
    refine hq h' tk' hp.objs.size (fun b o hb ho => ?_) (Nat.le_refl _) hxs.symm ?_ hn'
    · exact (hs.2 b (Nat.ne_of_lt (Heap.lt_size ho))).trans ((Heap.get?_update_ne _ _ _ _ hb).trans (Heap.get?_push_of_some _ ho))
    · exact (hs.2 x hxs).trans (Heap.get?_update_self _ hx₁ rfl)
end
/-- what the written part says of such a class -/
structure OexG (b : XB) (K : PySem.W.Frag) (C : Addr) : Prop where
  cls : ∃ nm q N bs bm sn sub ab col dd k0 k1 k2 k3 k5, K.lookup C = some (excClassObj nm q C N bs bm true sn sub ab col dd k0 k1 k2 k3 k5 b.newI) ∧ refsT b.tl bm = true
  sa : PySem.W.findIn K (.ref C) "__setattr__" = some (some (.builtin "object.__setattr__"))
  exC : PySem.W.subIn K (.ref C) (.type "BaseException") = some true
  tyC : PySem.W.typeIn K (.ref C) = some (.type "type")
  kC : PySem.W.keepIn K (.ref C) = true
section
variable {X : Cx} {A : Around} {E : Value → Shared → Prop} {pins : List (Addr × Obj)} {σ : L2.St} {H : Hp} {s : Shared} {a C dx : Addr} {f : Str} {y : V} {u : Value} {fs : List (Str × V)} {Q : Unit → Shared → Prop} {b : XB}
theorem ostT_new (O : XbOk b) (T : OexG b X.K C) (I : Inv X pins σ H s) (e : H a = some (exo a C none)) (hno : PySem.W.findIn X.K (.ref C) f = some none) (ry : RelV y u)
    (h : ∀ dx s', H dx = none → dx ≠ a → Inv X pins σ (upd (upd H dx (exd dx [(f, y)])) a (exo a C (some dx))) s' → Q () s') : wpAny (model X.prog X.w) A (setAttr (.ref a) f u) Q E s := by
  obtain ⟨nm, q, N, bs, bm, sn, sub, ab, col, dd, k0, k1, k2, k3, k5, hC, hbm⟩ := T.cls
  have hcl : PySem.W.clsIn X.K C = some { name := nm, bases := bs, mro := .ref C :: bm, ns := N, qualname := q, hasDict := true, slotNames := sn, subclasses := sub, abstract := ab, collection := col, hasDel := false } := by unfold PySem.W.clsIn; rw [hC] <;> rfl
  obtain ⟨t1, ho⟩ := exo_at I.hok e
  obtain ⟨hp, g, d, t, os⟩ := s
  refine PySem.W.set_plain I.kIn (ox := { cls := .ref C, dict := none, data := .fields #[.ref t1, .none, .none, .none, .bool false, .none] }) (od := none) ⟨ho, rfl, rfl, trivial⟩ T.sa ?_
  refine osaT_new O I.kIn ho hcl (show refsT b.tl (.ref C :: bm) = true from hbm) (List.cons_ne_nil _ _) rfl hno (fun h' tk' dx k dn dne hx hn => ?_)
  have hnd : H dx = none := I.hok.fresh dn
  have nd : ∀ {b : Addr} {o : Obj}, hp.get? b = some o → b ≠ dx := fun {b o} q => Nat.ne_of_lt (Nat.lt_of_lt_of_le (Heap.lt_size q) dn)
  have na : ∀ {b : Addr}, H b = none → b ≠ a := fun {b} n z => by rw [z, e] at n; cases n
  have U : Un X.fs [] H (upd (upd H dx (exd dx [(f, y)])) a (exo a C (some dx))) hp h' := by
    refine ⟨fun b o q n _ _ => k b o (na n) q, fun b o q n _ _ => ⟨o.slots, k b o (na n) q⟩, fun b o q n _ => ?_, fun b o q _ => ?_, fun b xs q => ?_, fun b o v q => ?_, fun b ps q => ⟨#[], ?_⟩⟩
    · rw [upd_ne (na n), upd_ne (nd q)]; exact n
    · by_cases hb : b = a
      · exact ⟨_, hb ▸ hx⟩
      · exact ⟨o, k b o hb q⟩
    · rw [upd_ne (at_ne e q exo_tup), upd_ne (ne_of_none q hnd)]; exact q
    · rw [upd_ne (at_ne e q exo_frz), upd_ne (ne_of_none q hnd)]; exact q
    · rw [upd_ne (at_ne e q exo_tbl), upd_ne (ne_of_none q hnd), q]; simp
  refine h dx _ hnd dne (I.un (t' := tk') U fun b o q => ?_)
  by_cases hb : b = a
  · subst hb
    rw [upd_same] at q; cases q
    exact exo_ok hx
  · rw [upd_ne hb] at q
    by_cases hd : b = dx
    · subst hd
      rw [upd_same] at q; cases q
      exact exd_ok hn (relO_put (fs := []) ry fun g => True.intro)
    · rw [upd_ne hd] at q
      refine (I.hok b o q).stay (fun c v hc z => k c v ?_ z) (fun c hc => by rw [upd_ne (at_ne e hc exo_own), upd_ne (ne_of_none hc hnd)]; exact hc) (fun c xs hc => by rw [upd_ne (at_ne e hc exo_tup), upd_ne (ne_of_none hc hnd)]; exact hc)
      rcases hc with hc | hc
      · exact hc ▸ hb
      · exact at_ne e hc exo_own
theorem ostT_old (O : XbOk b) (T : OexG b X.K C) (I : Inv X pins σ H s) (e : H a = some (exo a C (some dx))) (ed : H dx = some (exd dx fs)) (hl : fs.length ≤ 900) (hno : PySem.W.findIn X.K (.ref C) f = some none) (ry : RelV y u)
    (h : ∀ s', Inv X pins σ (upd H dx (exd dx ((f, y) :: fs))) s' → Q () s') : wpAny (model X.prog X.w) A (setAttr (.ref a) f u) Q E s := by
  obtain ⟨nm, q, N, bs, bm, sn, sub, ab, col, dd, k0, k1, k2, k3, k5, hC, hbm⟩ := T.cls
  have hcl : PySem.W.clsIn X.K C = some { name := nm, bases := bs, mro := .ref C :: bm, ns := N, qualname := q, hasDict := true, slotNames := sn, subclasses := sub, abstract := ab, collection := col, hasDel := false } := by unfold PySem.W.clsIn; rw [hC] <;> rfl
  obtain ⟨t1, ho⟩ := exo_at I.hok e
  obtain ⟨mA, hns, rel⟩ := exd_at I.hok ed
  have hw := within_of rel
  obtain ⟨hp, g, d, t, os⟩ := s
  obtain ⟨oD, _, _, hoD, _, _⟩ := hns.count hw
  refine PySem.W.set_plain I.kIn (ox := { cls := .ref C, dict := some dx, data := .fields #[.ref t1, .none, .none, .none, .bool false, .none] }) (od := some oD) ⟨ho, rfl, rfl, hoD⟩ T.sa ?_
  refine osaT_old O I.kIn ho hns hw (by rw [List.length_map]; omega) hcl (show refsT b.tl (.ref C :: bm) = true from hbm) (List.cons_ne_nil _ _) rfl hno (fun h' tk' k hn => ?_)
  have hd : ∃ o, h'.get? dx = some o := let ⟨o, _, _, e', _⟩ := hn; ⟨o, e'⟩
  exact h _ (I.write (t' := tk') (x := dx) (e := dx) (o := exd dx ((f, y) :: fs)) (by rw [ed]; exact True.intro) (.inl rfl) k hd (exd_ok hn (relO_put ry rel)))
end
def tOsT (b : XB) (K : PySem.W.Frag) (f : Str) (to te : TE) : TS := fun D σ H => te σ H fun y H1 => to σ H1 fun x H2 => ∃ a C : Addr, x = .ref a ∧ OexG b K C ∧ PySem.W.findIn K (.ref C) f = some none ∧
  ((H2 a = some (exo a C none) ∧ ∀ dx, H2 dx = none → dx ≠ a → D.nx σ (upd (upd H2 dx (exd dx [(f, y)])) a (exo a C (some dx)))) ∨
    ∃ (dx : Addr) (fs : List (Str × V)), H2 a = some (exo a C (some dx)) ∧ H2 dx = some (exd dx fs) ∧ fs.length ≤ 900 ∧ D.nx σ (upd H2 dx (exd dx ((f, y) :: fs))))
section
variable {X : Cx} {o e : Expr} {es : List Expr} {to te : TE} {ta : TA} {f : Str} {p p' p1 p2 pos : Pos} {b : XB}
theorem ps_osT (O : XbOk b) (ho : PE X o to) (he : PE X e te) (hs : swapsWith e (some (.Attribute o f p')) pos.line X.env = pure false := by rfl) : PS X (.Assign [.Attribute o f p'] e pos) (tOsT b X.K f to te) := by
  refine ⟨fun pins s σ H D I h => ?_⟩
  refine plainObj_wpAny_Assign_Attribute (thn (he.run pins s σ H _ I h) fun v s1 ⟨y, H1, I1, r1, q1⟩ => thn (ho.run pins s1 σ H1 _ I1 q1) fun u s2 ⟨x, H2, I2, r2, a, C, ex, T, hno, q⟩ => ?_) hs
  subst ex
  obtain rfl : u = Value.ref a := r2
  rcases q with ⟨ea, q⟩ | ⟨dx, fs, ea, ed, hl, q⟩
  · exact ostT_new O T I2 ea hno r1 fun dx s' n ne J => ⟨σ, _, J, q dx n ne⟩
  · exact ostT_old O T I2 ea ed hl hno r1 fun s' J => ⟨σ, _, J, q⟩
/-- the end of its making: its context is none -/
theorem mk_endN {X : Cx} {pins : List (Addr × Obj)} {σ : L2.St} {H1 H2 : Hp} {Q : XK} {hp hp2 h2 : Heap} {g1 g2 : Array GenState} {d1 d2 : Drawn} {t1 t2 : Nat} {os1 os2 : OsState} {a C d : Addr} {fs : List (Str × V)} (T : Raises X (.ref C)) (I1 : Inv X pins σ H1 ⟨hp, g1, d1, t1, os1⟩) (ha : hp.objs.size ≤ a)
    (k : ∀ b o, hp.get? b = some o → hp2.get? b = some o) (un : Un (frs X.stack) [] (upd H1 a (exo a C none)) H2 hp2 h2) (hok : HOk X.prog X.w H2 h2) (ho : os2 = os1) (hb : AllBare g2) (ea : H2 a = some (exo a C (some d))) (ed : H2 d = some (exd d fs)) (hd1 : H1 d = none) (q : Q (.ref C) (some d) (upd (del H2 a) d (.xd fs))) : L2N.MkP X pins σ Q (.ref a) ⟨h2, g2, d2, t2, os2⟩ := by
  obtain ⟨t0, G, J, kG, ge, hoe, na⟩ := mk_end0 (d2 := d2) (t2 := t2) I1 ha k un hok ho hb ea ed hd1
  exact ⟨a, _, _, ⟨G, g2, d2, t2, os2⟩, _, .ref C, some d, rfl, J, kG, ge, hoe, ⟨rfl, rfl, fun vs e => by cases e; rfl⟩, rfl, rfl, na, rfl, hb, T, q⟩
/-- the object is made, its __init__ runs -/
theorem mkT_run {CX : CXT} {C fI : Addr} {k : Nat} {fd : FuncData} {ps : List Str} {sp : Sp} {pins : List (Addr × Obj)} {s1 : Shared} {σ : L2.St} {H1 : Hp} {Q : XK} {us : List Value} {vs : List V} (O : XbOk b) (T : OexG b X.K C) (iC : PySem.W.findIn X.K (.ref C) "__init__" = some (some (.ref fI))) (tI : PySem.W.typeIn X.K (.ref fI) = some (.type "function"))
    (F1 : FnOk X.prog X.w X.K X.mg X.base CX k fI fd ps sp) (hr : Room (k + 1) X.A) (hb : Binds X.K fd ps []) (hx : Passes CX X (fun _ _ _ => False)) (I1 : Inv X pins σ H1 s1) (r1 : Vals vs us) (hz : vs.length ≤ 1000)
    (q1 : ∀ a, H1 a = none → sp (.ref a :: vs) (upd H1 a (exo a C none)) (fun v H2 => v = .non ∧ ∃ (d : Addr) (fs : List (Str × V)), H2 a = some (exo a C (some d)) ∧ H2 d = some (exd d fs) ∧ H1 d = none ∧ Q (.ref C) (some d) (upd (del H2 a) d (.xd fs))) (fun _ _ _ => False)) :
    wpAny (model X.prog X.w) X.A (call (.ref C) us) (L2N.MkP X pins σ Q) X.xe s1 := by
  obtain ⟨nm, q, N, bs, bm, sn, sub, ab, col, dd, k0, k1, k2, k3, k5, hC, hbm⟩ := T.cls
  obtain ⟨hp, g, dr, tk, os⟩ := s1
  have hsz : hp.objs.size ≤ hp.objs.size + 1 := Nat.le_succ _
  have hn : H1 (hp.objs.size + 1) = none := I1.hok.fresh hsz
  have hq := q1 (hp.objs.size + 1) hn
  have kk : ∀ b o, hp.get? b = some o → ((hp.push (PySem.W.kdv_tup us)).push (PySem.HandSPX.excO C hp.objs.size)).get? b = some o := fun b o e => Heap.get?_push_of_some _ (Heap.get?_push_of_some _ e)
  have hget : ((hp.push (PySem.W.kdv_tup us)).push (PySem.HandSPX.excO C hp.objs.size)).get? (hp.objs.size + 1) = some (PySem.HandSPX.excO C hp.objs.size) := by heap_get
  have I2 : Inv X pins σ (upd H1 (hp.objs.size + 1) (exo (hp.objs.size + 1) C none)) ⟨(hp.push (PySem.W.kdv_tup us)).push (PySem.HandSPX.excO C hp.objs.size), g, dr, tk, os⟩ :=
    I1.laid (t' := tk) (a := hp.objs.size + 1) (o := exo (hp.objs.size + 1) C none) (h' := (hp.push (PySem.W.kdv_tup us)).push (PySem.HandSPX.excO C hp.objs.size)) kk hsz (exo_ok hget)
  have r2 : Vals (V.ref (hp.objs.size + 1) :: vs) (Value.ref (hp.objs.size + 1) :: us) := .cons rfl r1
  have hl : (Value.ref (hp.objs.size + 1) :: us).length = ps.length := by
    have e := r2.length
    rw [F1.len _ _ _ _ hq] at e
    exact e.symm
  have hus : us.length ≤ sizeLine := by
    rw [← Paired.length r1, sizeLine_eq]; omega
  have hbb := hb _ (Value.ref (hp.objs.size + 1) :: us) I2.kIn (by rw [List.append_nil]; exact hl)
  rw [List.append_nil] at hbb
  refine wpAny_call (PySem.HandSPX.call_own O.F (fun Y => refsT_has Y bm hbm) (I1.kIn _ _ hC) (PySem.W.looks_findIn I1.kIn iC) (fun self => PySem.W.bind_fn I1.kIn self tI) hus
    (codeAny_mono (F1.run _ X.stack _ _ ⟨Value.ref (hp.objs.size + 1) :: us, []⟩ (Value.ref (hp.objs.size + 1) :: us) _ _ (fun _ _ _ => False) (hr.make C us []) (I2.env0.make C us []) hbb r2 hq) fun r s' hq' => ?_))
  cases r with
  | error er => exact hx pins σ _ _ er s' I2 hq'
  | ok fl =>
    cases fl with
    | ret u =>
      obtain ⟨v, H2, os2, bare2, un2, hok2, rv, ev, d, fs, ea, ed, hd1, q2⟩ := hq'
      subst ev
      obtain ⟨h2, g2, d2, t2, os'⟩ := s'
      exact ⟨rv, mk_endN (raises_own T.exC T.tyC) I1 hsz kk un2 hok2 os2 bare2 ea ed hd1 q2⟩
    | next => exact False.elim hq'
    | brk => exact False.elim hq'
    | cont => exact False.elim hq'
def tMkT (C : Addr) (sp : Sp) (ta : TA) : L2.St → Hp → XK → Prop := fun σ H Q => ta σ H fun vs H1 => vs.length ≤ 1000 ∧ ∀ a, H1 a = none → sp (.ref a :: vs) (upd H1 a (exo a C none))
  (fun v H2 => v = .non ∧ ∃ (d : Addr) (fs : List (Str × V)), H2 a = some (exo a C (some d)) ∧ H2 d = some (exd d fs) ∧ H1 d = none ∧ Q (.ref C) (some d) (upd (del H2 a) d (.xd fs))) (fun _ _ _ => False)
theorem pmk_T {CX : CXT} {x : Str} {C fI : Addr} {k : Nat} {fd : FuncData} {ps : List Str} {sp : Sp} (O : XbOk b) (T : OexG b X.K C) (iC : PySem.W.findIn X.K (.ref C) "__init__" = some (some (.ref fI))) (tI : PySem.W.typeIn X.K (.ref fI) = some (.type "function"))
    (F1 : FnOk X.prog X.w X.K X.mg X.base CX k fI fd ps sp) (hr : Room (k + 1) X.A) (hb : Binds X.K fd ps []) (hx : Passes CX X (fun _ _ _ => False)) (hg : Gl X x) (hm : X.mg x = some (.ref C)) (ha : PA X (e :: es) ta)
    (hdb : (x == ("__debug__" : Str)) = false := by decide) (he : starEach (e :: es) X.env = (false, eval e X.env) :: starEach es X.env := by rfl) (hpl : (backTo pos (starEach es X.env)).any (·.1) = false := by rfl) :
    L2N.PMk X (.Call (.Name x p) (e :: es) [] pos) (tMkT C sp ta) := by
  intro pins s σ H Q I h
  refine wpAny_Call_Name_kw (ld_glob I hg hm ?_ hdb)
  refine PySem.W.callWith_K (h₀ := X.base) I.ok.mod.kin T.kC (thn (ha.run pos pins s σ H _ I h) fun us s1 ⟨vs, H1, I1, r1, hz, q1⟩ => ⟨I1.kIn, ?_⟩) he hpl
  exact mkT_run O T iC tI F1 hr hb hx I1 r1 hz q1
end
def spX (C : Addr) (f T : Str) : Sp := fun vs H Q _ => ∃ (a : Addr) (v : V), vs = [.ref a, v] ∧ H a = some (exo a C none) ∧
  ∀ dx, H dx = none → dx ≠ a → Q .non (upd (upd (upd H dx (exd dx [(f, v)])) a (exo a C (some dx))) dx (exd dx [("tag", .str T), (f, v)]))
structure ExG (b : XB) (P : Program) (w : World) (K : PySem.W.Frag) (mg : Str → Option Value) (base : Heap) (cls : CT) (c f T : Str) : Prop where
  ex : ∃ (C fI : Addr) (fd : FuncData) (ps : List Str), mg c = some (.ref C) ∧ cls c = some C ∧ OexG b K C ∧ PySem.W.findIn K (.ref C) "__init__" = some (some (.ref fI)) ∧ PySem.W.typeIn K (.ref fI) = some (.type "function") ∧
    FnOk P w K mg base (L2N.CX P w) 1 fI fd ps (spX C f T) ∧ Binds K fd ps []
def ExGF (b : XB) (K : PySem.W.Frag) (mg : Str → Option Value) (c f qual : Str) (st : Stmt) : Prop := ∃ C fI fd, mg c = some (.ref C) ∧ OexG b K C ∧ PySem.W.findIn K (.ref C) "__init__" = some (some (.ref fI)) ∧ PySem.W.typeIn K (.ref fI) = some (.type "function") ∧
  Fun K "__init__" qual st fI fd ∧ Binds K fd [("self" : Str), f] [] ∧ PySem.W.findIn K (.ref C) f = some none ∧ PySem.W.findIn K (.ref C) "tag" = some none
section
variable {P : Program} {w : World} {K : PySem.W.Frag} {mg : Str → Option Value} {base : Heap} {tb : List (Addr × Str)} {c f qual T : Str} {st : Stmt} {b : XB}
theorem exg_of (h : ExGF b K mg c f qual st) (S : FnScope [("self" : Str), f] [("self" : Str), f] (defScope st))
    (hp : ∀ X : Cx, X.N = [("self" : Str), f] → X.env.scope = defScope st → PSs X (defBody st) (tSeq (tOsT b X.K f (tVar 0) (tVar 1)) (tOsT b X.K "tag" (tVar 0) (tC (.str T))))) : ExG b P w K mg base (clsOf mg tb) c f T := by
  obtain ⟨C, fI, fd, h1, hO, hi, hty, F, hb, hf, ht⟩ := h
  refine ⟨C, fI, fd, _, h1, clsOf_eq h1, hO, hi, hty, okXN F S (fun vs H Q E h => by obtain ⟨a, v, rfl, _⟩ := h; rfl) (fun cdv A outer s H vs Q E hr h => ?_), hb⟩
  obtain ⟨a, v, rfl, ha, q⟩ := h
  refine ⟨_, hp _ rfl rfl, v, rfl, .ref a, rfl, a, C, rfl, hO, hf, .inl ⟨ha, fun dx nd ne => ⟨.ref a, rfl, a, C, rfl, hO, ht, .inr ⟨dx, [(f, v)], upd_same, ?_, by simp, q dx nd ne⟩⟩⟩⟩
  rw [upd_ne ne]; exact upd_same
end
def sRaise (c f T : Str) (fe : EM) : SM := fun S w => (fe S w).to S fun d w1 => .err S c [("tag", .str T), (f, d)] w1
section
variable {X : Cx} {g : G} {E : EK} {F0 : FH} {H0 : Hp} {e : Expr} {pos p pos2 : Pos} {fe : EM} {c f T : Str} {b : XB}
theorem ds_raiseG (O : XbOk b) (hc : X.calm = true) (M : ExG b X.prog X.w X.K X.mg X.base g.cls c f T) (hr : Room 2 X.A) (tk : L2N.Takes X (fun cls d σ H => E σ cls d H)) (ha : DE X g E e fe) (hx : Passes (L2N.CX X.prog X.w) X (fun _ _ _ => False)) (hg : Gl X c := by rfl) (hdb : (c == ("__debug__" : Str)) = false := by decide)
    (he : starEach [e] X.env = [(false, eval e X.env)] := by rfl) : DS X g E F0 H0 (.Raise (some (.Call (.Name c p) [e] [] pos)) none pos2) (sRaise c f T fe) := by
  obtain ⟨C, fI, fd, ps, hm, hcl, hO, hi, hty, F, hb⟩ := M.ex
  obtain ⟨ta, pa, ra⟩ := ha.run
  refine ⟨_, L2N.ps_raise hc tk (pmk_T (CX := L2N.CX X.prog X.w) O hO hi hty F hr hb hx hg hm (pa_cons pa pa_nil he) hdb he), fun N σ H F S w B R h => ?_⟩
  refine ra σ H _ F S w R.rel (PostG.imp (PostS.to R h) fun d w1 _ h1 v H1 F1 x1 r1 => ?_)
  refine ⟨by show 1 ≤ 1000; decide, fun a na => ⟨a, v, rfl, upd_same, fun dx nd ne => ?_⟩⟩
  have nd1 : H1 dx = none := by rw [upd_ne ne] at nd; exact nd
  refine ⟨rfl, dx, [("tag", .str T), (f, v)], ?_, upd_same, nd1, ?_⟩
  · rw [upd_ne ne.symm]; exact upd_same
  · have eq : upd (del (upd (upd (upd (upd H1 a (exo a C none)) dx (exd dx [(f, v)])) a (exo a C (some dx))) dx (exd dx [("tag", .str T), (f, v)])) a) dx (.xd [("tag", .str T), (f, v)]) = upd H1 dx (.xd [("tag", .str T), (f, v)]) := by
      funext b
      by_cases e1 : b = dx
      · rw [e1, upd_same, upd_same]
      · rw [upd_ne e1, upd_ne e1]
        by_cases e2 : b = a
        · rw [e2, del_same, na]
        · rw [del_ne e2, upd_ne e1, upd_ne e2, upd_ne e1, upd_ne e2]
    rw [eq]
    have x2 := Ext.own (o := .xd [("tag", .str T), (f, v)]) x1.sub x1.bx nd1
    exact h1 σ _ F1 (R.ext' (x1.trans x2)) C dx _ (R.ext.fresh (x1.fresh nd1)) hcl upd_same (.cons (.str T) (.cons r1 .nil))
end
theorem cxN {P : Program} {w : World} {outer : List Env} {H : Hp} {s s' : Shared} {E : XK} {u : Value} (c : L2N.CX P w outer H s E u s') : L2.CX P w outer H s E u s' := by
  obtain ⟨a, B, H', cls, d, e, fl, r⟩ := c
  exact ⟨a, B, H', cls, d, e, L2H.flyingZ_imp (fun _ z => z.zc) fl, r⟩
theorem passes_pl {X : Cx} {W : WX} {E : XK} (tk : Takes X W) (hW : ∀ cls d σ H, E cls d H → W cls d σ H) : Passes (L2N.CX X.prog X.w) X E := fun pins σ H s e s' I c => passes_call tk hW pins σ H s e s' I (cxN c)
end Y
namespace Y
open PySem PySem.Spec PyProof.Rows L2
/-- all but the tables stay, and nothing that was known is gone -/
structure ExtL (T : List (Addr × Str)) (H H1 : Hp) : Prop where
  ext : LamX.ExtN H H1
  dom : ∀ b, H1 b = none → H b = none
  tabs : LamX.Tabs T H1
section
variable {X : Cx} {pins : List (Addr × Obj)} {σ : L2.St} {H : Hp} {s : Shared}
theorem lam_made {T : List (Addr × Str)} {c P : Addr} {params : Arguments} {body : Expr} {scope : Scope} {pos : Pos} {E : Value → Shared → Prop} {Q : Value → Shared → Prop} (I : Inv X pins σ H s) (TB : LamX.TabB X.base X.mg c P) (hcode : X.env.code = .ref c) (hm : (P, X.env.qual ++ "<lambda>") ∈ T)
    (hu : ∀ p ∈ T, p.1 = P → p.2 = X.env.qual ++ "<lambda>") (hT : LamX.Tabs T H) (hdef : defaultsOf params X.env = ([], [])) (hfree : ∀ y ∈ scope.names, y.2 = .free → ∃ c, X.env.cells.lookup y.1 = some c)
    (h : ∀ (f c' : Addr) (pm ctv : Value) (H1 : Hp) (s' : Shared), Inv X pins σ H1 s' → ExtL T H H1 → s'.heap.get? f = some (PySem.W.kla_obj "<lambda>" (X.env.qual ++ "<lambda>") params body scope (cloFrom X.env.cells scope.names []) pm c' ctv) → H1 f = none → f ∉ frs X.stack →
      H1 c' = some (LamX.CodeO c' (X.env.qual ++ "<lambda>")) → Q (.ref f) s') : wpAny (model X.prog X.w) X.A (eval (.Lambda params body scope pos) X.env) Q E s := by
  obtain ⟨tab, tabH, tabOk, tabC⟩ := hT _ hm
  refine PySem.W.kla_eval hdef ?_
  have bP : s.heap.BuiltinsAt X.mg P := TB.bm.keeps I.bk
  have tabS : s.heap.get? P = some { cls := .none, data := .fields tab } := I.hok P _ tabH
  have away : ∀ f, s.heap.objs.size ≤ f → f ∉ frs X.stack := fun f hf z => by
    rcases List.mem_cons.mp (I.stkSub _ z) with e | e
    · have lt0 := I.lt
      rw [← e] at lt0
      exact absurd (Nat.lt_of_lt_of_le lt0 hf) (Nat.lt_irrefl _)
    · exact I.nofs hf e
  cases hc : codeAmong pos tab.toList with
  | some cv =>
    obtain ⟨c', rfl, hco⟩ := tabC pos cv hc
    refine PySem.W.kla_makeFunctionHit (mg := X.mg) (c := c) (P := P) (ps := tab) (closure_ok hfree) I.ok.glob (I.mod.glob.keeps I.bk) hcode (TB.code.keeps I.bk) tabS tabOk hc bP fun ctv h' tk hx hsz => ?_
    refine h h'.objs.size c' ((X.mg "__name__").getD .none) ctv H _ (I.kept fun b o e => Heap.get?_push_of_some _ (hx b o e)) ⟨LamX.ExtN.refl H, fun _ z => z, hT⟩ (Heap.get?_push_size _ rfl) (I.hok.fresh hsz) (away _ hsz) hco
  | none =>
    refine PySem.W.kla_makeFunction (mg := X.mg) (c := c) (P := P) (ps := tab) (closure_ok hfree) I.ok.glob (I.mod.glob.keeps I.bk) hcode (TB.code.keeps I.bk) tabS tabOk hc TB.gP bP fun c' ctv h' tk hx hge hlt hrec htb => ?_
    obtain ⟨c2, oc, us, t, e2, k1, k2, k3⟩ := hrec
    cases e2
    have big : s.heap.objs.size ≤ h'.objs.size := by omega
    have nC : H c' = none := I.hok.fresh hge
    have lst : (tab ++ #[rawInt pos.line, rawInt pos.col, .ref c']).toList = tab.toList ++ [rawInt pos.line, rawInt pos.col, .ref c'] := by simp
    have J := LamX.inv_table (q := X.env.qual ++ "<lambda>") (t' := tk) (more := #[rawInt pos.line, rawInt pos.col, .ref c']) (h' := h'.push (PySem.W.kla_obj "<lambda>" (X.env.qual ++ "<lambda>") params body scope (cloFrom X.env.cells scope.names []) ((X.mg "__name__").getD .none) c' ctv)) I tabH
      (fun b o hb e => Heap.get?_push_of_some _ (hx b o hb e)) (Heap.get?_push_of_some _ htb) hge ⟨oc, us, t, Heap.get?_push_of_some _ k1, k2, k3⟩
    have ex : LamX.ExtN H (upd (upd H P (.tbl (tab ++ #[rawInt pos.line, rawInt pos.col, .ref c']))) c' (LamX.CodeO c' (X.env.qual ++ "<lambda>"))) := fun b o e n => by
      have b1 : b ≠ c' := ne_of_none e nC
      have b2 : b ≠ P := fun z => n tab (Option.some.inj (e.symm.trans (by rw [z]; exact tabH)))
      rw [upd_ne b1, upd_ne b2]; exact e
    have lt1 : s.heap.objs.size ≤ h'.objs.size := big
    refine h h'.objs.size c' ((X.mg "__name__").getD .none) ctv _ _ J ⟨ex, fun b z => NdefX.upd_none (NdefX.upd_none z), fun p hp => ?_⟩ (Heap.get?_push_size _ rfl) ?_ (away _ big) upd_same
    · by_cases hb : p.1 = P
      · rw [hu p hp hb, hb]
        refine ⟨_, by rw [upd_ne (ne_of_none tabH nC), upd_same], by rw [lst]; exact PySem.TriplesOk_snoc _ _ _ _ tabOk, fun p' cv hcv => ?_⟩
        rw [lst] at hcv
        rcases LamX.among_app _ tabOk hcv with z | z
        · obtain ⟨c0, e1, e2⟩ := tabC p' cv z
          exact ⟨c0, e1, ex _ _ e2 LamX.codeO_ne⟩
        · exact ⟨c', z, upd_same⟩
      · obtain ⟨tab2, a1, a2, a3⟩ := hT p hp
        refine ⟨tab2, by rw [upd_ne (ne_of_none a1 nC), upd_ne hb]; exact a1, a2, fun p' cv hcv => ?_⟩
        obtain ⟨c0, e1, e2⟩ := a3 p' cv hcv
        exact ⟨c0, e1, ex _ _ e2 LamX.codeO_ne⟩
    · have n1 : h'.objs.size ≠ c' := by omega
      have n2 : h'.objs.size ≠ P := fun z => absurd (Nat.lt_of_lt_of_le (Heap.lt_size tabS) (z ▸ big)) (Nat.lt_irrefl _)
      rw [upd_ne n1, upd_ne n2]
      exact I.hok.fresh big
end
def tLamD (T : List (Addr × Str)) (TT : (XK → Hp → VK → Prop) → Hp → VK → Prop) (t : XK → TE) : TE := fun σ H Q => LamX.Tabs T H ∧ ∀ H1, ExtL T H H1 → TT (fun E H' Q' => t E σ H' Q') H1 Q
section
variable {X : Cx}
theorem pe_lamD {T : List (Addr × Str)} {TT : (XK → Hp → VK → Prop) → Hp → VK → Prop} {x a : Str} {g c P : Addr} {k : Nat} {pg : Arguments} {bg : List Stmt} {sg : Scope} {dV kV doc pm cdv ct oc : Value} {an od : Option Addr} {osl : Array (Option Value)} {Ng : List Str} {params : Arguments} {body : Expr} {scope : Scope} {t : XK → TE} {p lpos pos : Pos}
    (hg : Gl X x) (hm : X.mg x = some (.ref g)) (hk : PySem.W.keepIn X.K (.ref g) = true) (lk : X.K.lookup g = some ⟨oc, od, .func (PySem.W.fnOf x x pg bg sg dV kV doc pm an cdv ct), osl⟩) (hcg : PySem.W.codeIn X.K cdv x = true) (hb : L2.Binds X.K (PySem.W.fnOf x x pg bg sg dV kV doc pm an cdv ct) [a] [])
    (Sg : FnScope Ng [a] sg) (hNg : Ng[0]? = some a) (hva : Vis sg a) (hG : LamX.GivesTo X Ng x sg g cdv bg a (X.env.qual ++ "<lambda>") TT) (TB : LamX.TabB X.base X.mg c P) (hcode : X.env.code = .ref c) (hmT : (P, X.env.qual ++ "<lambda>") ∈ T) (hu : ∀ p ∈ T, p.1 = P → p.2 = X.env.qual ++ "<lambda>")
    (hr : Room (k + 2) X.A) (L : LamX.LamS X.env.scope scope) (hdef : defaultsOf params X.env = ([], [])) (hbind : ∀ (q : Str) (cl : List (Str × Addr)) (pm cv ctv : Value), bindArgs (PySem.W.kla_fn "<lambda>" q params body scope cl pm cv ctv) ⟨[], []⟩ = pure [])
    (hbody : ∀ (A : Around) (outer : List Env) (s : Shared) (H : Hp) (E : XK) (f c' : Addr), Room k (A.deeper (LamX.lamEnv X scope s.heap.objs.size f c')) → PE (LamX.lamCx X A outer s H E scope f c') body (t E))
    (hdb : (x == ("__debug__" : Str)) = false := by decide) (hd : (a == ("__debug__" : Str)) = false := by decide) (hcd : (a == ("__classdict__" : Str)) = false := by decide) : PE X (.Call (.Name x p) [.Lambda params body scope lpos] [] pos) (tLamD T TT t) := by
  refine ⟨fun pins s σ H Q I ⟨hT, h⟩ => ?_⟩
  refine wpAny_Call_Name_kw (ld_glob I hg hm (PySem.W.callWith_K (h₀ := X.base) I.ok.mod.kin hk ?_ (by rfl) (by rfl)) hdb)
  show wpAny _ _ (spliced ((false, eval (.Lambda params body scope lpos) X.env) :: backTo pos (starEach [] X.env))) _ _ s
  refine Calls.spliced_cons (lam_made I TB hcode hmT hu hT hdef (L.has I.ok) fun f c' pm' ctv H1 s' J eN hf hfn hfr hco => Calls.spliced_nil ⟨J.kIn, ?_⟩)
  have out : codeAny (model X.prog X.w) X.A (.call (.ref g) ⟨[.ref f], []⟩) (CR C8.CX0 X.stack X.prog X.w H1 s' Q C8.E0) s' :=
    LamX.run_ofS (N := Ng) (ps := [a]) (us := [.ref f]) (vs := [.ref f]) lk hcg Sg hr J.env0 (hb s' [.ref f] J.kIn rfl) (.cons rfl .nil) rfl fun hr' => by
      obtain ⟨t', ht', hq'⟩ := hG f c' s' H1 Q (fun E H' Q' => t E σ H' Q') (fun W pn xe E p1 p2 tk hW => LamX.pe_act (i := 0) J L hf hfn hfr (hbind _ _ _ _ _) tk hW hr' (fun A outer s H hr2 => hbody A outer s H E f c' hr2) hNg hva hd hcd) hco (h H1 eN)
      exact ⟨t', ht'.nox, hq'⟩
  refine wpAny_call (codeAny_mono out fun r s2 hq => ?_)
  match r, hq with
  | .ok (.ret u), hq => exact J.after hq
  | .error e, hq => exact (show False from hq).elim
  | .ok .next, hq => exact False.elim hq
  | .ok .brk, hq => exact False.elim hq
  | .ok .cont, hq => exact False.elim hq
end
end Y
namespace Y
open PySem PySem.Spec PyProof.Rows L2
theorem Takes.len {X : Cx} {W : WX} (tk : Takes X W) : Takes X (fun cls d σ H => σ.length = X.N.length → W cls d σ H) := fun u s' ⟨a, B, sI, pins, σ, H, cls, d, e, I, nb, up, sky, na, os, ag, w⟩ => tk u s' ⟨a, B, sI, pins, σ, H, cls, d, e, I, nb, up, sky, na, os, ag, w I.len⟩
/-- the clause that takes the class tells the field F -/
def hits (K : PySem.W.Frag) (cls : Value) (F : Str) : List (List Value × Str) → Prop
  | [] => False
  | (cs, F') :: r => (PySem.W.exmAny K cls cs = some true ∧ F' = F) ∨ (PySem.W.exmAny K cls cs = some false ∧ hits K cls F r)
/-- the fields of an error of the class at C -/
structure XrK (K : PySem.W.Frag) (C : Addr) (F : Str) : Prop where
  xf : XfC K C
  tag : PySem.W.findIn K (.ref C) "tag" = some none
  fld : F ≠ "" → PySem.W.findIn K (.ref C) F = some none
def fldV (fs : List (Str × V)) (F : Str) (v : V) : Prop := if F = "" then v = .non else fs.lookup F = some v
/-- told = (e.tag, e.F) -/
def tsRef (K : PySem.W.Frag) (F : Str) : Addr → Value → Option Addr → TS := fun a cls d D σ H => ∃ C, cls = .ref C ∧ XrK K C F ∧ σ[(2 : Nat)]? = some (some (.ref a)) ∧ ∃ dd fs tv fv, d = some dd ∧ H dd = some (.xd fs) ∧ fs.lookup ("tag" : Str) = some tv ∧ fldV fs F fv ∧ ∀ p, H p = none → D.nx (σ.set 1 (some (.ref p))) (upd H p (.tup [tv, fv]))
inductive NmsS (sg : Scope) (mg : Str → Option Value) : List Expr → List Value → Prop
  | nil : NmsS sg mg [] []
  | cons {x : Str} {c : Value} {np : Pos} {es : List Expr} {cs : List Value} (hg : sg.names.lookup x = some .globalImplicit) (hm : mg x = some c) (hd : (x == ("__debug__" : Str)) = false) (r : NmsS sg mg es cs) : NmsS sg mg (.Name x np :: es) (c :: cs)
inductive TstS (sg : Scope) (mg : Str → Option Value) : Expr → List Value → Prop
  | one {x : Str} {c : Value} {np : Pos} (hg : sg.names.lookup x = some .globalImplicit) (hm : mg x = some c) (hd : (x == ("__debug__" : Str)) = false) : TstS sg mg (.Name x np) [c]
  | tup {es : List Expr} {cs : List Value} {k : Nat} {tp : Pos} (r : NmsS sg mg es cs) (h2 : 2 ≤ cs.length) (h5 : cs.length ≤ 5) : TstS sg mg (.Tuple es k tp) cs
inductive RefH (sg : Scope) (mg : Str → Option Value) (told en : Str) : List ExceptHandler → List (List Value × Str) → Prop
  | nil : RefH sg mg told en [] []
  | fld {t : Expr} {cs : List Value} {F : Str} {k : Nat} {q1 q2 q3 q4 q5 q6 q7 cpos : Pos} {hds : List ExceptHandler} {l : List (List Value × Str)} (ht : TstS sg mg t cs) (hF : F ≠ "") (r : RefH sg mg told en hds l) :
      RefH sg mg told en (.ExceptHandler (some t) (some en) [.Assign [.Name told q1] (.Tuple [.Attribute (.Name en q2) "tag" q3, .Attribute (.Name en q4) F q5] k q6) q7] cpos :: hds) ((cs, F) :: l)
  | non {t : Expr} {cs : List Value} {k j : Nat} {q1 q2 q3 q4 q6 q7 cpos : Pos} {hds : List ExceptHandler} {l : List (List Value × Str)} (ht : TstS sg mg t cs) (r : RefH sg mg told en hds l) :
      RefH sg mg told en (.ExceptHandler (some t) (some en) [.Assign [.Name told q1] (.Tuple [.Attribute (.Name en q2) "tag" q3, .Constant .none j q4] k q6) q7] cpos :: hds) ((cs, "") :: l)
theorem nmsS_ok {Z : Cx} {es : List Expr} {cs : List Value} (h : NmsS Z.env.scope Z.mg es cs) : NmsOk Z es cs := by
  induction h with
  | nil => exact .nil
  | cons hg hm hd r ih => exact .cons hg hm hd ih
theorem tstS_ok {Z : Cx} {t : Expr} {cs : List Value} (h : TstS Z.env.scope Z.mg t cs) : TestE Z t cs := by
  cases h with
  | one hg hm hd => exact test_one hg hm hd
  | tup r h2 h5 => exact test_tup (nmsS_ok r) h2 h5
theorem refH_ok {Z : Cx} {told en : Str} {hds : List ExceptHandler} {l : List (List Value × Str)} (hN : Z.N.Nodup) (h1 : Z.N[(1 : Nat)]? = some told) (h2 : Z.N[(2 : Nat)]? = some en) (l1 : Z.env.scope.names.lookup told = some .local) (l2 : Z.env.scope.names.lookup en = some .local)
    (d1 : (en == ("__debug__" : Str)) = false) (d2 : (en == ("__classdict__" : Str)) = false)
    (hsw : ∀ (pn : List (Addr × Obj)) (a : Addr) (v : Expr) (q : Pos) (n : Nat), (∃ es k q6, v = .Tuple es k q6) → swapsWith v (some (.Name told q)) n Z.env = pure false) (hab : ∀ (n : Str) (q2 : Pos), attributeBase (.Name en q2) n Z.env (eval (.Name en q2) Z.env) = eval (.Name en q2) Z.env)
    (h : RefH Z.env.scope Z.mg told en hds l) : ClsOk Z en hds (l.map fun p => (p.1, tsRef Z.K p.2)) := by
  induction h with
  | nil => exact .nil
  | fld ht hF r ih =>
    refine .cons (tstS_ok ht) (fun a oe cls d pn hz hf => ⟨fun pins s σ H D I h => ?_⟩) ih
    obtain ⟨C, rfl, hx, h0, dd, fs, tv, fv, rfl, e1, e2, e3, k⟩ := h
    unfold fldV at e3
    rw [if_neg hF] at e3
    have pv2 : ∀ q : Pos, PE (Z.suite a ((a, oe) :: pn)) (.Name en q) (tVar 2) := fun q => pe_var (i := 2) h2 (.inl l2) d1 d2
    exact (pss_one (ps_set (X := Z.suite a ((a, oe) :: pn)) (i := 1) hN h1 (.inl l1) (pe_tup (pa_cons (pe_xf hx.xf hx.tag hz hf (pv2 _) (hab _ _)) (pa_cons (pe_xf hx.xf (hx.fld hF) hz hf (pv2 _) (hab _ _)) pa_nil (by rfl)) (by rfl))) (hsw pn a _ _ _ ⟨_, _, _, rfl⟩) (.inr l1))).run pins s σ H D I
      ⟨.ref a, h0, rfl, rfl, dd, fs, tv, rfl, e1, e2, .ref a, h0, rfl, rfl, dd, fs, fv, rfl, e1, e3, by show 2 ≤ sizeLine; rw [sizeLine_eq]; decide, fun p np => k p np⟩
  | non ht r ih =>
    refine .cons (tstS_ok ht) (fun a oe cls d pn hz hf => ⟨fun pins s σ H D I h => ?_⟩) ih
    obtain ⟨C, rfl, hx, h0, dd, fs, tv, fv, rfl, e1, e2, e3, k⟩ := h
    unfold fldV at e3
    rw [if_pos rfl] at e3
    subst e3
    have pv2 : ∀ q : Pos, PE (Z.suite a ((a, oe) :: pn)) (.Name en q) (tVar 2) := fun q => pe_var (i := 2) h2 (.inl l2) d1 d2
    exact (pss_one (ps_set (X := Z.suite a ((a, oe) :: pn)) (i := 1) hN h1 (.inl l1) (pe_tup (pa_cons (pe_xf hx.xf hx.tag hz hf (pv2 _) (hab _ _)) (pa_cons pe_non pa_nil (by rfl)) (by rfl))) (hsw pn a _ _ _ ⟨_, _, _, rfl⟩) (.inr l1))).run pins s σ H D I
      ⟨.ref a, h0, rfl, rfl, dd, fs, tv, rfl, e1, e2, by show 2 ≤ sizeLine; rw [sizeLine_eq]; decide, fun p np => k p np⟩
/-- what the def makes of the call's reading -/
def TTref (K : PySem.W.Frag) (cl : List (List Value × Str)) : (XK → Hp → VK → Prop) → Hp → VK → Prop := fun tl H Q => ∀ p, H p = none → tl (fun cls d H' => ∃ F, hits K cls F cl ∧ ∃ C, cls = .ref C ∧ XrK K C F ∧ ∃ dd fs tv fv, d = some dd ∧ H' dd = some (.xd fs) ∧ fs.lookup ("tag" : Str) = some tv ∧ fldV fs F fv ∧
  ∀ p2, H' p2 = none → Q (.ref p2) (upd H' p2 (.tup [tv, fv]))) (upd H p (.tup [.str "", .non])) (fun _ H' => ∃ v, (some (some (V.ref p)) : Option (Option V)) = some (some v) ∧ Q v H')
theorem wcl_of {K : PySem.W.Frag} {D : Ends} {cls : Value} {d : Option Addr} {σ : L2.St} {H' : Hp} {F : Str} {C : Addr} (hc : cls = .ref C) (hx : XrK K C F) {dd : Addr} {fs : List (Str × V)} {tv fv : V} (h1 : d = some dd) (h2 : H' dd = some (.xd fs)) (h3 : fs.lookup ("tag" : Str) = some tv) (h4 : fldV fs F fv)
    (hl : σ.length = 3) (k : ∀ p, H' p = none → ∀ σ2 : L2.St, σ2.length = 3 → σ2[(1 : Nat)]? = some (some (.ref p)) → D.nx σ2 (upd H' p (.tup [tv, fv]))) : ∀ {cl : List (List Value × Str)}, hits K cls F cl → wClauses K 2 (fun _ _ _ _ => False) D (cl.map fun p => (p.1, tsRef K p.2)) cls d σ H'
  | [], h => h.elim
  | (cs, F') :: r, h => by
    rcases h with ⟨e1, rfl⟩ | ⟨e1, e2⟩
    · refine ⟨true, e1, fun _ a na => ⟨C, hc, hx, List.getElem?_set_self (by omega), dd, fs, tv, fv, h1, h2, h3, h4, fun p np => ?_⟩, fun z => by cases z⟩
      refine k p np _ (by simp [hl]) ?_
      rw [List.getElem?_set_ne (by decide)]
      exact List.getElem?_set_self (by simp [hl])
    · exact ⟨false, e1, (fun z => by cases z), fun _ => wcl_of hc hx h1 h2 h3 h4 hl k e2⟩
theorem ref_gives {X : Cx} {told en ask x q : Str} {sg : Scope} {g : Addr} {cdg : Value} {hd0 : ExceptHandler} {hds : List ExceptHandler} {cl : List (List Value × Str)} {j1 j2 k1 : Nat} {p1 p2 p3 p4 p5 p6 p7 p8 p9 p10 p11 : Pos} (hN : ([ask, told, en] : List Str).Nodup) (l1 : sg.names.lookup told = some .local) (l2 : sg.names.lookup en = some .local) (d0 : (told == ("__debug__" : Str)) = false) (d3 : (told == ("__classdict__" : Str)) = false)
    (d1 : (en == ("__debug__" : Str)) = false) (d2 : (en == ("__classdict__" : Str)) = false) (hr : RefH sg X.mg told en (hd0 :: hds) cl) :
    LamX.GivesTo X [ask, told, en] x sg g cdg [.Assign [.Name told p1] (.Tuple [.Constant (.str "") j1 p2, .Constant .none j2 p3] k1 p4) p5, .Try [.Expr (.Call (.Name ask p6) [] [] p7) p8] (hd0 :: hds) [] [] p9, .Return (some (.Name told p10)) p11] ask q (TTref X.K cl) := by
  intro f c' s H Q tl act hc h
  generalize hZ : (cxOf C8.CX0 X.prog X.w X.K X.mg X.base [ask, told, en] x sg g cdg X.A X.stack s H C8.E0).nox = Z
  have zK : Z.K = X.K := by rw [← hZ]; rfl
  have zN : Z.N = [ask, told, en] := by rw [← hZ]; rfl
  have zs : Z.env.scope = sg := by rw [← hZ]; rfl
  have zm : Z.mg = X.mg := by rw [← hZ]; rfl
  have hcls : ClsOk Z en (hd0 :: hds) (cl.map fun p => (p.1, tsRef Z.K p.2)) := by
    refine refH_ok (by rw [zN]; exact hN) (by rw [zN]; rfl) (by rw [zN]; rfl) (by rw [zs]; exact l1) (by rw [zs]; exact l2) d1 d2 (fun pn a v q n hv => ?_) (fun n q2 => ?_) (by rw [zs, zm]; exact hr)
    · obtain ⟨es, k, q6, rfl⟩ := hv; rfl
    · rfl
  rw [zK] at hcls
  refine ⟨_, pss_cons (ps_set (X := Z) (i := 1) (by rw [zN]; exact hN) (by rw [zN]; rfl) (.inl (by rw [zs]; exact l1)) (pe_tup (pa_cons pe_str (pa_cons pe_non pa_nil (by rfl)) (by rfl))) (by rfl) (.inr (by rw [zs]; exact l1)))
    (pss_cons (ps_tryAs (X := Z) (i := 2) (n := en) (Wout := fun _ _ _ _ => False) (l := cl.map fun p => (p.1, tsRef X.K p.2))
      (tb := fun W D σ H => ∃ Ech : XK, (∀ cls d σ' H', Ech cls d H' → σ'.length = 3 → W cls d σ' H') ∧ σ[(0 : Nat)]? = some (some (.ref f)) ∧ H c' = some (LamX.CodeO c' q) ∧ tl Ech H (fun _ H' => D.nx σ H'))
      (by rw [← hZ]; rfl) (by rw [← hZ]; rfl) (by rw [zN]; exact hN) (by rw [zN]; rfl) (by show Z.env.scope.names.lookup en = _; rw [zs]; exact l2) LamX.takes0 (fun W pn xe tk _ => ?_) hcls)
    (pss_one (ps_ret (pe_var (i := 1) (by rw [zN]; rfl) (.inl (by rw [zs]; exact l1)) d0 d3)))), ?_⟩
  · refine ⟨fun pins s' σ H' D I h' => ?_⟩
    obtain ⟨Ech, hW, h1, h2, h3⟩ := h'
    have tk' := Takes.len tk
    subst hZ
    have hp := act (fun cls d σ H => σ.length = 3 → W cls d σ H) pn xe Ech p6 p7 tk' (fun cls d σ' H' z hl => hW cls d σ' H' z hl)
    have hq := pss_one (ps_expr (pos := p8) hp (by rfl))
    exact hq.run pins s' σ H' D I ⟨h1, h2, h3⟩
  · refine ⟨by show 2 ≤ sizeLine; rw [sizeLine_eq]; decide, fun p np => ?_⟩
    have hc1 : upd H p (.tup [.str "", .non]) c' = some (LamX.CodeO c' q) := by rw [upd_ne (ne_of_none hc np)]; exact hc
    refine ⟨_, fun cls d σ' H' he hl => ?_, rfl, hc1, h p np⟩
    obtain ⟨F, hh, C, e1, hx, dd, fs, tv, fv, e2, e3, e4, e5, k⟩ := he
    rw [zK]
    refine wcl_of e1 hx e2 e3 e4 e5 hl (fun p2 np2 σ2 hl2 h1 => ?_) hh
    exact ⟨.ref p2, h1, k p2 np2⟩
end Y
namespace Y
open PySem PySem.Spec PyProof.Rows L2
def refF (fs : List (Str × D)) (F : Str) : Option D := if F = "" then some .non else fs.lookup F
def refD (tbl : List (Str × Str)) : R D → R D
  | .ok _ w => .ok (.tup [.str "", .non]) w
  | .err c fs w => match tbl.lookup c with
    | some F => match fs.lookup ("tag" : Str), refF fs F with
      | some t, some v => .ok (.tup [t, v]) w
      | _, _ => .bad
    | none => .bad
  | .bad => .bad
def eRef (tbl : List (Str × Str)) (fb : EM) : EM := fun S w => refD tbl (fb S w)
theorem Ext.lamL {g : G} {F : FH} {H H1 : Hp} {w : Bx} (s : Same F H) (b : BxOk g F w H) (e : ExtL g.cls.tb H H1) : Ext g F H F H1 w := by
  have k : ∀ a o, (∀ ps, o ≠ .tbl ps) → H a = some o → H1 a = some o := fun a o n h => e.ext a o h n
  have kn : ∀ a, H a ≠ none → (∀ ps, H a ≠ some (.tbl ps)) → H1 a = H a := fun a n nt => by
    cases q : H a with
    | none => exact absurd q n
    | some o => exact k a o (fun ps z => nt ps (by rw [q, z])) q
  refine ⟨FSame.refl F, fun a o _ _ nt h => k a o nt h, e.dom, fun _ _ h => .inl h, fun _ _ h => .inl h, fun a o h => k a o (fun ps z => b.ntb a ps (by rw [h, z])) (s a o h), ?_, fun a od u h => k a _ (fun _ z => by cases z) h⟩
  refine ⟨?_, b.no, b.big0, b.mk0, b.mk1, b.nc, fun i c h => ?_, b.adl, b.inj, e.tabs, b.ntb⟩
  · obtain ⟨c, h1, h2⟩ := b.at_
    exact ⟨c, k _ _ (fun _ z => by cases z) h1, h2⟩
  · obtain ⟨a, h1, h2, h3, h4⟩ := b.cel i c h
    refine ⟨a, h1, h2, h3, h4.keep (FSame.refl F) ?_ fun x y q => k _ _ (fun _ z => by cases z) q⟩
    refine kn a h4.at_ fun ps z => ?_
    cases c with
    | lst ds => obtain ⟨vs, e1, _⟩ := h4; rw [e1] at z; cases z
    | dct ds => obtain ⟨vs, e1, _⟩ := h4; rw [e1] at z; cases z
    | obj c ds => obtain ⟨C, dx, vs, e1, _⟩ := h4; rw [e1] at z; cases z
    | lck ds => obtain ⟨vs, od, e1, _⟩ := h4; rw [e1] at z; cases z
/-- the def that tells an error, and the classes that it tells of -/
structure RefK (K : PySem.W.Frag) (mg : Str → Option Value) (cls : CT) (x : Str) (tbl : List (Str × Str)) : Prop where
  ex : ∃ (ga : Addr) (ask told en : Str) (pg : Arguments) (sg : Scope) (dV kV doc pm cdv ct oc : Value) (an od : Option Addr) (osl : Array (Option Value)) (hd0 : ExceptHandler) (hds : List ExceptHandler) (cl : List (List Value × Str)) (j1 j2 k1 : Nat) (p1 p2 p3 p4 p5 p6 p7 p8 p9 p10 p11 : Pos),
    mg x = some (.ref ga) ∧ PySem.W.keepIn K (.ref ga) = true ∧
    K.lookup ga = some ⟨oc, od, .func (PySem.W.fnOf x x pg [.Assign [.Name told p1] (.Tuple [.Constant (.str "") j1 p2, .Constant .none j2 p3] k1 p4) p5, .Try [.Expr (.Call (.Name ask p6) [] [] p7) p8] (hd0 :: hds) [] [] p9, .Return (some (.Name told p10)) p11] sg dV kV doc pm an cdv ct), osl⟩ ∧
    PySem.W.codeIn K cdv x = true ∧ L2.Binds K (PySem.W.fnOf x x pg [.Assign [.Name told p1] (.Tuple [.Constant (.str "") j1 p2, .Constant .none j2 p3] k1 p4) p5, .Try [.Expr (.Call (.Name ask p6) [] [] p7) p8] (hd0 :: hds) [] [] p9, .Return (some (.Name told p10)) p11] sg dV kV doc pm an cdv ct) [ask] [] ∧
    FnScope [ask, told, en] [ask] sg ∧ sg.names.lookup ask = some .local ∧ sg.names.lookup told = some .local ∧ sg.names.lookup en = some .local ∧ ([ask, told, en].all fun y => !(y == ("__debug__" : Str)) && !(y == ("__classdict__" : Str))) = true ∧ RefH sg mg told en (hd0 :: hds) cl ∧
    ∀ c F, tbl.lookup c = some F → ∃ C, cls c = some C ∧ XrK K C F ∧ hits K (.ref C) F cl
section
variable {X : Cx} {g : G} {E : EK} {x : Str} {tbl : List (Str × Str)}
theorem de_refused {k : Nat} {c P : Addr} {params : Arguments} {body : Expr} {scope : Scope} {fb : EM} {p lpos pos : Pos} (hK : g.K = X.K) (M : RefK X.K X.mg g.cls x tbl) (TB : LamX.TabB X.base X.mg c P) (hcode : X.env.code = .ref c) (hmT : (P, X.env.qual ++ "<lambda>") ∈ g.cls.tb)
    (hu : ∀ q ∈ g.cls.tb, q.1 = P → q.2 = X.env.qual ++ "<lambda>") (hr : Room (k + 2) X.A) (hbody : ∀ (A : Around) (outer : List Env) (s : Shared) (H : Hp) (E : XK) (f c' : Addr), Room k (A.deeper (LamX.lamEnv X scope s.heap.objs.size f c')) → DE (LamX.lamCx X A outer s H E scope f c') g (kE E) body fb)
    (L : LamX.LamS X.env.scope scope) (hg : Gl X x := by rfl) (hdef : defaultsOf params X.env = ([], []) := by rfl) (hbind : ∀ (q : Str) (cl : List (Str × Addr)) (pm cv ctv : Value), bindArgs (PySem.W.kla_fn "<lambda>" q params body scope cl pm cv ctv) ⟨[], []⟩ = pure [] := by intros; rfl) (hdb : (x == ("__debug__" : Str)) = false := by decide) :
    DE X g E (.Call (.Name x p) [.Lambda params body scope lpos] [] pos) (eRef tbl fb) := by
  obtain ⟨ga, ask, told, en, pg, sg, dV, kV, doc, pm, cdv, ct, oc, an, od, osl, hd0, hds, cl, j1, j2, k1, p1, p2, p3, p4, p5, p6, p7, p8, p9, p10, p11, hm, hk, lk, hcg, hb, Sg, la, lt, le, hall, hR, hcl⟩ := M.ex
  have hall : ∀ y ∈ [ask, told, en], (y == ("__debug__" : Str)) = false ∧ (y == ("__classdict__" : Str)) = false := fun y hy => by
    have := List.all_eq_true.mp hall y hy
    rw [Bool.and_eq_true, Bool.not_eq_true', Bool.not_eq_true'] at this
    exact this
  have da := hall ask (by simp)
  have dt := hall told (by simp)
  have de := hall en (by simp)
  refine ⟨_, pe_lamD (t := fun E => tSem g (kE E) fb) hg hm hk lk hcg hb Sg rfl (.inl la) (ref_gives Sg.nd lt le dt.1 dt.2 de.1 de.2 hR) TB hcode hmT hu hr L hdef hbind (fun A outer s H E f c' hr => (hbody A outer s H E f c' hr).pe) hdb da.1 da.2, fun σ H Q F S w R h => ?_⟩
  refine ⟨R.bx.tabs, fun H1 eL q nq => ?_⟩
  have x1 := Ext.lamL R.sub R.bx eL
  have x2 := Ext.lay (o := .tup [.str "", .non]) x1.sub x1.bx nq
  have x12 := x1.trans x2
  refine ⟨F.upd q (.tup [.str "", .non]), S, w, R.ext x12, ?_⟩
  unfold eRef at h
  cases hf : fb S w with
  | bad => rw [hf] at h; exact h
  | ok d w1 =>
    rw [hf] at h
    intro v H' F' x3 r
    refine ⟨.ref q, rfl, h (.ref q) H' F' (x12.trans x3) (.tup (.inl (.inl (x3.ff.fz _ _ upd_same))) (.cons (.str "") (.cons .non .nil)))⟩
  | err c fs w1 =>
    rw [hf] at h
    intro cl' a vs H' F' x3 n kc l r
    unfold refD at h
    simp only at h
    cases ht : tbl.lookup c with
    | none => rw [ht] at h; exact h.elim
    | some Fn =>
      rw [ht] at h
      simp only at h
      cases h1 : fs.lookup ("tag" : Str) with
      | none => rw [h1] at h; exact h.elim
      | some t =>
        cases h2 : refF fs Fn with
        | none => rw [h1, h2] at h; exact h.elim
        | some z =>
          rw [h1, h2] at h
          obtain ⟨C, e1, e2, e3⟩ := hcl c Fn ht
          rw [kc] at e1; cases e1
          obtain ⟨tv, t1, t2⟩ := r.lookup h1
          have hz : ∃ fv, fldV vs Fn fv ∧ DR g F' fv z := by
            unfold refF at h2
            unfold fldV
            split at h2
            · rename_i hF
              cases h2
              exact ⟨.non, by rw [if_pos hF], .non⟩
            · rename_i hF
              obtain ⟨fv, z1, z2⟩ := r.lookup h2
              exact ⟨fv, by rw [if_neg hF]; exact z1, z2⟩
          obtain ⟨fv, z1, z2⟩ := hz
          refine ⟨Fn, e3, cl', rfl, e2, a, vs, tv, fv, rfl, l, t1, z1, fun p2' np => ?_⟩
          have x4 := Ext.lay (o := .tup [tv, fv]) x3.sub x3.bx np
          exact h (.ref p2') _ _ ((x12.trans x3).trans x4) (.tup (.inl (.inl upd_same)) (.cons (t2.mono x4.ff) (.cons (z2.mono x4.ff) .nil)))
end
end Y
namespace Y
open PySem PySem.Spec PyProof.Rows L2
/-- the table of a def that makes lambdas -/
def LamT (K : PySem.W.Frag) (mg : Str → Option Value) (base : Heap) (tb : List (Addr × Str)) (x ql : Str) : Prop := ∃ f c P, mg x = some (.ref f) ∧ (∀ cdv, CodeIs K f cdv → cdv = .ref c) ∧ LamX.TabB base mg c P ∧ (P, ql) ∈ tb ∧ ∀ q ∈ tb, q.1 = P → q.2 = ql
end Y
namespace Y
open PySem PySem.Spec PyProof.Rows L2
theorem tab_code {K : PySem.W.Frag} {x : Str} {f c P : Addr} (h1 : PySem.W.nsIn K mainGlobals x = some (some (.ref f))) (h2 : PySem.W.tabIn K x = some (c, P)) : ∀ cdv, CodeIs K f cdv → cdv = .ref c := by
  rintro cdv ⟨oc, od, fd, osl, lk, rfl⟩
  unfold PySem.W.tabIn at h2
  rw [h1] at h2
  simp only [lk] at h2
  split at h2
  · rename_i c' e
    split at h2
    · split at h2
      · cases h2; exact e
      · cases h2
    · cases h2
  · cases h2
theorem lamT_mk {K : PySem.W.Frag} {mg : Str → Option Value} {base : Heap} {tb : List (Addr × Str)} {x ql : Str} {f c P : Addr} (hm : mg x = some (.ref f)) (h1 : PySem.W.nsIn K mainGlobals x = some (some (.ref f))) (h2 : PySem.W.tabIn K x = some (c, P)) (TB : LamX.TabB base mg c P) (hmem : (P, ql) ∈ tb) (hu : ∀ q ∈ tb, q.1 = P → q.2 = ql) : LamT K mg base tb x ql :=
  ⟨f, c, P, hm, tab_code h1 h2, TB, hmem, hu⟩
theorem tabs_start {tb : List (Addr × Str)} {H : Hp} (h : ∀ p ∈ tb, H p.1 = some (.tbl #[])) : LamX.Tabs tb H := fun p hp => ⟨#[], h p hp, trivial, fun pos cv hc => by cases hc⟩
end Y
namespace Y
theorem tbl_nil {Q : PySem.Str → PySem.Str → Prop} : ∀ c F, ([] : List (PySem.Str × PySem.Str)).lookup c = some F → Q c F := fun _ _ h => nomatch h
theorem tbl_cons {Q : PySem.Str → PySem.Str → Prop} {c0 F0 : PySem.Str} {r : List (PySem.Str × PySem.Str)} (h : Q c0 F0) (hr : ∀ c F, r.lookup c = some F → Q c F) : ∀ c F, ((c0, F0) :: r).lookup c = some F → Q c F := fun c F e => by
  rw [List.lookup_cons] at e
  split at e
  · rename_i q; cases e; rw [eq_of_beq q]; exact h
  · exact hr c F e
theorem all1 {α : Type} {Q : α → Prop} {a : α} (h : Q a) : ∀ p ∈ [a], Q p := fun p hp => by rcases List.mem_cons.mp hp with rfl | z; exact h; cases z
end Y
namespace Y
open PySem PySem.Spec PyProof.Rows L2
end Y
namespace Y
open PySem PySem.Spec PyProof.Rows L2
def six : List String := ["NoneType", "bool", "int", "str", "list", "tuple"]
structure IsGK (K : PySem.W.Frag) (mg : Str → Option Value) (cls : CT) (c : Str) (tb : List (Str × Bool)) : Prop where
  ex : ∃ C : Addr, mg c = some (.ref C) ∧ (∀ c' b, tb.lookup c' = some b → ∃ C', cls c' = some C' ∧ C8.InsC K C' ∧ PySem.W.kitOne K (.ref C') (.ref C) = some b) ∧ ∀ a ∈ six, PySem.W.kitOne K (.type a) (.ref C) = some false
def mIsG (tb : List (Str × Bool)) : D → Option D
  | .obj c _ => (tb.lookup c).map .bl
  | d => (tyN d).map fun _ => .bl false
section
variable {X : Cx} {g : G} {E : EK} {e a b : Expr} {pos p : Pos} {f fa fb : EM} {c : Str} {k : Nat} {mm : List D → Bx → R D} {tb : List (Str × Bool)}
theorem de_isG {p3 : Pos} (hK : g.K = X.K) (M : IsGK X.K X.mg g.cls c tb) (hm : X.mg "isinstance" = none) (ha : DE X g E e f) (hgN : Gl X c := by rfl) (hg : Gl X "isinstance" := by rfl) (hdN : (c == ("__debug__" : Str)) = false := by decide)
    (he : starEach [e, .Name c p3] X.env = (false, eval e X.env) :: starEach [.Name c p3] X.env := by rfl) (he2 : starEach [.Name c p3] X.env = (false, eval (.Name c p3) X.env) :: starEach [] X.env := by rfl) (hpl : (backTo pos (starEach [.Name c p3] X.env)).any (·.1) = false := by rfl) :
    DE X g E (.Call (.Name "isinstance" p) [e, .Name c p3] [] pos) (e1 (mIsG tb) f) := by
  obtain ⟨C, h1, h2, h3⟩ := M.ex
  obtain ⟨ta, pa, ra⟩ := ha.run
  refine ⟨_, pe_callB call_isi hg hm (by decide +kernel) (pa_cons pa (pa_cons (pe_glob hgN h1 (v := .ref C) rfl hdN) pa_nil he2) he) (by decide) (by decide) he hpl, fun σ H Q F S w R h => ?_⟩
  refine ra σ H _ F S w R (PostG.imp (PostG.bind h) fun d w1 _ h1 v H1 F1 x1 r1 => ?_)
  obtain ⟨z, hz, q⟩ := post_ofO h1
  by_cases hd : ∃ c' fs, d = .obj c' fs
  · obtain ⟨c', fs, rfl⟩ := hd
    obtain ⟨b, e1, rfl⟩ := Option.map_eq_some_iff.mp hz
    obtain ⟨C', k1, k2, k3⟩ := h2 c' b e1
    cases r1 with
    | @obj a1 C1 dx _ fs' _ q1 q2 q3 q4 =>
      rw [k1] at q3; cases q3
      exact ⟨.ref a1, .ref C, .ref C', .ref C, _, rfl, .own C, .base (.ins (x1.sub _ _ q1) k2.cl k2.ha k2.hn k2.htk k2.hm), k3, q _ H1 F1 x1 (.bl _)⟩
  · have hz' : (tyN d).map (fun _ => D.bl false) = some z := by
      cases d <;> first | exact hz | exact absurd ⟨_, _, rfl⟩ hd
    obtain ⟨a, e1, e2⟩ := Option.map_eq_some_iff.mp hz'
    subst e2
    rw [← hK]
    exact ⟨v, .ref C, .type a, .ref C, _, rfl, .own C, ty_of x1.sub r1 e1, by rw [hK]; exact h3 a (tyN_mem e1), q _ H1 F1 x1 (.bl _)⟩
end
theorem all6 {Q : String → Prop} (a1 : Q "NoneType") (a2 : Q "bool") (a3 : Q "int") (a4 : Q "str") (a5 : Q "list") (a6 : Q "tuple") : ∀ a ∈ six, Q a := by
  intro a h
  unfold six at h
  simp at h
  rcases h with rfl | rfl | rfl | rfl | rfl | rfl
  · exact a1
  · exact a2
  · exact a3
  · exact a4
  · exact a5
  · exact a6
theorem tbB_nil {Q : Str → Bool → Prop} : ∀ c F, ([] : List (Str × Bool)).lookup c = some F → Q c F := fun _ _ h => nomatch h
theorem tbB_cons {Q : Str → Bool → Prop} {c0 : Str} {F0 : Bool} {r : List (Str × Bool)} (h : Q c0 F0) (hr : ∀ c F, r.lookup c = some F → Q c F) : ∀ c F, ((c0, F0) :: r).lookup c = some F → Q c F := fun c F e => by
  rw [List.lookup_cons] at e
  split at e
  · rename_i q; cases e; rw [eq_of_beq q]; exact h
  · exact hr c F e
end Y
namespace Y
open PySem PySem.Spec PyProof.Rows L2
/-- the slots that hold data alone -/
def datS (S : SL) : SL := S.map fun o => match o with
  | some (.dat d) => some (.dat d)
  | _ => none
def lc2Loop (gm : GM) (tm : TM) (fi1 : AM) (gm1 : GM) (tm1 : TM) (em : EM) (S0 : SL) (vs1 : List Nat) : List D → Bx → R (List D)
  | [], w => .ok [] w
  | d :: ds, w => match gm d S0 with
    | none => .bad
    | some S1 => (tm S1 w).nx.bind fun b w1 => if b then (fi1 S1 w1).nx.bind fun es w2 => if es.length ≤ 4000 then (lcLoop gm1 tm1 em (wipeS (datS S1) vs1) es w2).bind fun ys w3 => (lc2Loop gm tm fi1 gm1 tm1 em S0 vs1 ds w3).bind fun zs w4 => .ok (ys ++ zs) w4 else .bad
      else lc2Loop gm tm fi1 gm1 tm1 em S0 vs1 ds w1
def oLc2 (fi : AM) (gm : GM) (tm : TM) (fi1 : AM) (gm1 : GM) (tm1 : TM) (em : EM) (vs vs1 : List Nat) : AM := fun S w => (fi S w).bind fun ds w1 => if ds.length ≤ 4000 then lc2Loop gm tm fi1 gm1 tm1 em (wipeS S vs) vs1 ds w1 else .bad
def tSemI (g : G) (E : EK) (f : AM) : TI := fun σ H Rq => ∃ F S w, Rel g F w S σ H ∧ PostG g F H (E σ) (fun ds w' => ∀ J H' F', Ext g F H F' H' w' → Yld g F' J ds → Rq J H') (f S w)
section
variable {X : Cx} {g : G} {E : EK} {pos : Pos}
theorem DI.pi {tg iter : Expr} {f : AM} (h : DI X g E tg iter f) : PI X tg iter (tSemI g E f) := by
  obtain ⟨wi, p, r⟩ := h.run
  exact ⟨fun pins s σ H Rq I ⟨F, S, w, R, q⟩ => p.run pins s σ H Rq I (r σ H Rq F S w R q)⟩
theorem datS_get {S : SL} {i : Nat} {s : SV} (h : (datS S)[i]? = some (some s)) : ∃ d, s = .dat d ∧ S[i]? = some (some (.dat d)) := by
  unfold datS at h
  rw [List.getElem?_map] at h
  obtain ⟨o, e1, e2⟩ := Option.map_eq_some_iff.mp h
  split at e2
  · cases e2; exact ⟨_, rfl, e1⟩
  · cases e2
theorem Rel.dats {F F' : FH} {H H' : Hp} {w w' : Bx} {S : SL} {σ : L2.St} (R : Rel g F w S σ H) (e : FSame F F') (s : Same F' H') (b : BxOk g F' w' H') : Rel g F' w' (datS S) σ H' := by
  refine ⟨s, b, by unfold datS; rw [List.length_map]; exact R.len, fun i x hx => ?_, fun i j ds ds2 v h1 => ?_⟩
  · obtain ⟨d, rfl, h⟩ := datS_get hx
    obtain ⟨v, h1, h2⟩ := R.sl i _ h
    exact ⟨v, h1, DR.mono e h2⟩
  · obtain ⟨d, h, _⟩ := datS_get h1
    cases h
theorem bind_app {α β γ : Type} (r : R α) (k : α → Bx → R β) (l : β → Bx → R γ) : (r.bind k).bind l = r.bind fun a w => (k a w).bind l := by cases r <;> rfl
theorem yld_item {F1 F2 : FH} {H2 H3 : Hp} {w2 : Bx} {J : It} {ds : List D} {i : Nat} {d : D} {x : V} (yl : Yld g F1 J ds) (ff : FSame F1 F2) (sb : Same F2 H2) (b : BxOk g F2 w2 H2) (hd : ds[i]? = some d) (hx : J.yld i H2 x H3) : ∃ F3, Ext g F2 H2 F3 H3 w2 ∧ DR g F3 x d := by
  obtain ⟨hgo, hyl⟩ := yl.go i d F2 H2 ff sb hd
  rcases hyl x H3 hx with ⟨e1, r1⟩ | ⟨T, xs, es, e1, nT, e2, r1, e3⟩
  · subst e1; exact ⟨F2, Ext.refl sb b, r1⟩
  · subst e1 e2 e3
    exact ⟨_, Ext.lay sb b nT, .tup (.inl (.inl upd_same)) (r1.mono (Ext.lay sb b nT).ff)⟩
theorem wipe_eq {σ σ2 : L2.St} {ns vs : List Nat} (hn : ∀ i ∈ ns, i ∈ vs) (wp : ∀ us, (∀ i ∈ ns, i ∈ us) → L2.wipe σ2 us = L2.wipe (L2.wipe σ vs) us) : L2.wipe σ2 vs = L2.wipe σ vs := by
  rw [wp vs hn]
  apply List.ext_getElem?
  intro j
  simp only [wipe_get, wipe_length]
  by_cases hj : j ∈ vs
  · simp only [if_pos hj]
  · simp only [if_neg hj]
theorem lc2_run {wi : TI} {fi fi1 : AM} {gm gm1 : GM} {tm tm1 : TM} {em : EM} {ns vs ns1 vs1 : List Nat} (hn : ∀ i ∈ ns, i ∈ vs) (hn1 : ∀ i ∈ ns1, i ∈ vs1)
    (ri : ∀ σ H (Rq : It → Hp → Prop) F S w, Rel g F w S σ H → PostG g F H (E σ) (fun ds w' => ∀ J H' F', Ext g F H F' H' w' → Yld g F' J ds → Rq J H') (fi S w) → wi σ H Rq) :
    ∀ σ H Q F S w, Rel g F w S σ H → PostO g F H Q (E σ) (oLc2 fi gm tm fi1 gm1 tm1 em vs vs1 S w) → tLc2 wi (tSemG g ns gm) (tSemT g (kE E0) tm) (tSemI g (kE E0) fi1) (tSemG g ns1 gm1) (tSemT g (kE E0) tm1) (tSem g (kE E0) em) vs vs1 σ H Q := by
  intro σ H Q F S w R h
  refine ri σ H _ F S w R (PostG.imp (PostG.bind h) fun ds w1 _ h1 J H1 F1 x1 yl D nD => ?_)
  by_cases hl : ds.length ≤ 4000
  · rw [if_pos hl] at h1
    have nDb : D ≠ g.bx := not_box x1.bx nD
    let PQ : List Y.D → Y.R (List Y.D) → Prop := fun ys r => PostG g F H (E σ) (fun zs w' => ∀ p vs H' F', Ext g F H F' H' w' → H p = none → F'.free p → H' p = some (.lst vs) → DRs g F' vs (ys ++ zs) → Q (.ref p) H') r
    refine ⟨fun i m H2 => ∃ F2 w2 acc ys, Ext g F1 H1 F2 H2 w2 ∧ F2.free D ∧ H2 D = some (.lst acc) ∧ DRs g F2 acc ys ∧ ys.length ≤ i * 4000 ∧ i + m = ds.length ∧ PQ ys (lc2Loop gm tm fi1 gm1 tm1 em (wipeS S vs) vs1 (ds.drop i) w2),
      ⟨ds.length, F1, w1, [], [], Ext.own x1.sub x1.bx nD, free_of x1.sub x1.bx nD, upd_same, .nil, Nat.zero_le _, by omega, h1⟩, fun i m H2 hW => ?_⟩
    obtain ⟨F2, w2, acc, ys, x2, nF2, hD, rys, hy, him, hp⟩ := hW
    cases hd : ds[i]? with
    | none =>
      have hle : ds.length ≤ i := List.getElem?_eq_none_iff.mp hd
      have hie : i = ds.length := by omega
      refine .inl ⟨hie ▸ yl.stop F2 H2 x2.ff x2.sub, ?_⟩
      rw [List.drop_eq_nil_of_le hle] at hp
      have hp : ∀ p vs H' F', Ext g F H F' H' w2 → H p = none → F'.free p → H' p = some (.lst vs) → DRs g F' vs (ys ++ []) → Q (.ref p) H' := hp
      rw [List.append_nil] at hp
      exact hp D acc H2 F2 (x1.trans x2) (x1.fresh nD) nF2 hD rys
    | some d =>
      obtain ⟨hlt, hde⟩ := List.getElem?_eq_some_iff.mp hd
      obtain ⟨hgo, hyl⟩ := yl.go i d F2 H2 x2.ff x2.sub hd
      rw [List.drop_eq_getElem_cons hlt, hde] at hp
      refine .inr ⟨hgo, fun H3 => ∃ F2 w2 acc ys, Ext g F1 H1 F2 H3 w2 ∧ F2.free D ∧ H3 D = some (.lst acc) ∧ DRs g F2 acc ys ∧ ys.length ≤ (i + 1) * 4000 ∧ PQ ys (lc2Loop gm tm fi1 gm1 tm1 em (wipeS S vs) vs1 (ds.drop (i + 1)) w2), fun H' hN => ?_, fun x H3 hx => ?_⟩
      · obtain ⟨F', w', acc', ys', b1, b2, b3, b4, b5, b6⟩ := hN
        exact ⟨m - 1, by omega, F', w', acc', ys', b1, b2, b3, b4, b5, by omega, b6⟩
      · obtain ⟨F3, x3, rx⟩ := yld_item yl x2.ff x2.sub x2.bx hd hx
        have x13 : Ext g F H F3 H3 w2 := x1.trans (x2.trans x3)
        cases hg : gm d (wipeS S vs) with
        | none => unfold lc2Loop at hp; rw [hg] at hp; exact hp.elim
        | some S1 =>
          unfold lc2Loop at hp
          rw [hg] at hp
          refine ⟨F3, wipeS S vs, w2, d, S1, (R.ext x13).wipe vs, rx, hg, fun σ2 R2 wp => ⟨wipe_eq hn wp, ?_⟩⟩
          refine ⟨F3, S1, w2, R2, nx_post (PostG.ext x13 (PostG.bind hp) fun b w3 h3 => h3) fun b w3 h3 H4 F4 x4 => ?_⟩
          have x14 := x13.trans x4
          have nF4 : F4.free D := (x3.trans x4).free nF2 hD
          have hD4 : H4 D = some (.lst acc) := (x3.trans x4).hh D _ nDb nF2.2 (fun _ z => by cases z) hD
          cases b with
          | false =>
            refine iteF ?_
            exact ⟨F4, w3, acc, ys, x2.trans (x3.trans x4), nF4, hD4, rys.mono (x3.ff.trans x4.ff), by omega, h3⟩
          | true =>
            refine iteT ?_
            refine ⟨F4, S1, w3, R2.ext x4, nx_post (PostG.ext x14 (PostG.bind h3) fun es w4 h4 => h4) fun es w4 h4 J1 H5 F5 x5 yl1 => ?_⟩
            have x15 := x14.trans x5
            have nF5 : F5.free D := x5.free nF4 hD4
            have hD5 : H5 D = some (.lst acc) := x5.hh D _ nDb nF4.2 (fun _ z => by cases z) hD4
            by_cases hl1 : es.length ≤ 4000
            · rw [if_pos hl1] at h4
              have x25 := x2.trans (x3.trans (x4.trans x5))
              let rest : Bx → Y.R (List Y.D) := fun w => lc2Loop gm tm fi1 gm1 tm1 em (wipeS S vs) vs1 (ds.drop (i + 1)) w
              refine ⟨fun j k H6 => ∃ F6 w6 acc ys, Ext g F1 H1 F6 H6 w6 ∧ FSame F5 F6 ∧ F6.free D ∧ H6 D = some (.lst acc) ∧ DRs g F6 acc ys ∧ ys.length ≤ i * 4000 + j ∧ j + k = es.length ∧ PQ ys ((lcLoop gm1 tm1 em (wipeS (datS S1) vs1) (es.drop j) w6).bind fun ys' w7 => (rest w7).bind fun zs w8 => .ok (ys' ++ zs) w8),
                ⟨es.length, F5, w4, acc, ys, x25, FSame.refl F5, nF5, hD5, rys.mono (x3.ff.trans (x4.ff.trans x5.ff)), by omega, by omega, h4⟩, fun j k H6 hW => ?_⟩
              obtain ⟨F6, w6, acc, ys, x6, f6, nF6, hD6, rys, hy, hjk, hp⟩ := hW
              cases hd1 : es[j]? with
              | none =>
                have hle : es.length ≤ j := List.getElem?_eq_none_iff.mp hd1
                have hje : j = es.length := by omega
                refine .inl ⟨hje ▸ yl1.stop F6 H6 f6 x6.sub, F6, w6, acc, ys, x6, nF6, hD6, rys, by omega, ?_⟩
                rw [List.drop_eq_nil_of_le hle] at hp
                have hp : PQ ys ((rest w6).bind fun zs w8 => .ok ([] ++ zs) w8) := hp
                refine PostG.imp (PostG.bind hp) fun zs w9 _ h9 => ?_
                exact h9
              | some d1 =>
                obtain ⟨hlt1, hde1⟩ := List.getElem?_eq_some_iff.mp hd1
                obtain ⟨hgo1, hyl1⟩ := yl1.go j d1 F6 H6 f6 x6.sub hd1
                rw [List.drop_eq_getElem_cons hlt1, hde1] at hp
                refine .inr ⟨hgo1, fun H7 => ∃ F6 w6 acc ys, Ext g F1 H1 F6 H7 w6 ∧ FSame F5 F6 ∧ F6.free D ∧ H7 D = some (.lst acc) ∧ DRs g F6 acc ys ∧ ys.length ≤ i * 4000 + (j + 1) ∧ PQ ys ((lcLoop gm1 tm1 em (wipeS (datS S1) vs1) (es.drop (j + 1)) w6).bind fun ys' w7 => (rest w7).bind fun zs w8 => .ok (ys' ++ zs) w8), fun H' hN => ?_, fun x H7 hx => ?_⟩
                · obtain ⟨F', w', acc', ys', b1, b1', b2, b3, b4, b5, b6⟩ := hN
                  exact ⟨k - 1, by omega, F', w', acc', ys', b1, b1', b2, b3, b4, b5, by omega, b6⟩
                · obtain ⟨F7, x7, rx1⟩ := yld_item yl1 f6 x6.sub x6.bx hd1 hx
                  have x17 : Ext g F H F7 H7 w6 := x1.trans (x6.trans x7)
                  cases hg1 : gm1 d1 (wipeS (datS S1) vs1) with
                  | none => unfold lcLoop at hp; rw [hg1] at hp; exact hp.elim
                  | some S2 =>
                    unfold lcLoop at hp
                    rw [hg1] at hp
                    refine ⟨F7, wipeS (datS S1) vs1, w6, d1, S2, (R2.dats (x4.ff.trans (x5.ff.trans (f6.trans x7.ff))) x7.sub x7.bx).wipe vs1, rx1, hg1, fun σ3 R3 wp1 => ⟨wipe_eq hn1 wp1, ?_⟩⟩
                    simp only [bind_app] at hp
                    refine ⟨F7, S2, w6, R3, nx_post (PostG.ext x17 (PostG.bind hp) fun b w9 h9 => h9) fun b w9 h9 H8 F8 x8 => ?_⟩
                    have x18 := x17.trans x8
                    have nF8 : F8.free D := (x7.trans x8).free nF6 hD6
                    have hD8 : H8 D = some (.lst acc) := (x7.trans x8).hh D _ nDb nF6.2 (fun _ z => by cases z) hD6
                    cases b with
                    | false =>
                      refine iteF ?_
                      exact ⟨F8, w9, acc, ys, x6.trans (x7.trans x8), f6.trans (x7.ff.trans x8.ff), nF8, hD8, rys.mono (x7.ff.trans x8.ff), by omega, h9⟩
                    | true =>
                      refine iteT ?_
                      simp only [if_true, bind_app] at h9
                      refine ⟨F8, S2, w9, R3.ext x8, nx_post (PostG.ext x18 (PostG.bind h9) fun y w10 h10 => h10) fun y w10 h10 v H9 F9 x9 ry => ?_⟩
                      have nF9 : F9.free D := x9.free nF8 hD8
                      have hD9 : H9 D = some (.lst acc) := x9.hh D _ nDb nF8.2 (fun _ z => by cases z) hD8
                      have hal : acc.length = ys.length := rys.length
                      refine ⟨acc, hD9, ?_, F9, w10, acc ++ [v], ys ++ [y], Ext.mut (x6.trans (x7.trans (x8.trans x9))) nD nF9 nDb hD9 (.inl ⟨_, rfl⟩), f6.trans (x7.ff.trans (x8.ff.trans x9.ff)), nF9, upd_same, (rys.mono (x7.ff.trans (x8.ff.trans x9.ff))).append (.cons ry .nil), by rw [List.length_append, List.length_singleton]; omega, ?_⟩
                      · show acc.length < 16777216
                        have : i * 4000 ≤ 3999 * 4000 := Nat.mul_le_mul_right _ (by omega)
                        omega
                      · show PQ (ys ++ [y]) ((lcLoop gm1 tm1 em (wipeS (datS S1) vs1) (es.drop (j + 1)) w10).bind fun ys' w7 => (rest w7).bind fun zs w8 => .ok (ys' ++ zs) w8)
                        cases hL : lcLoop gm1 tm1 em (wipeS (datS S1) vs1) (es.drop (j + 1)) w10 with
                        | bad => rw [hL] at h10; exact h10
                        | err c fs w11 => rw [hL] at h10; exact h10
                        | ok a w11 =>
                          rw [hL] at h10
                          have h10 : PQ ys ((rest w11).bind fun zs w8 => .ok (y :: a ++ zs) w8) := h10
                          show PQ (ys ++ [y]) ((rest w11).bind fun zs w8 => .ok (a ++ zs) w8)
                          cases hR : rest w11 with
                          | bad => rw [hR] at h10; exact h10
                          | err c fs w12 => rw [hR] at h10; exact h10
                          | ok zs w12 =>
                            rw [hR] at h10
                            intro p vs H' F' k1 k2 k3 k4 k5
                            exact h10 p vs H' F' k1 k2 k3 k4 (by rw [List.append_assoc] at k5; exact k5)
            · rw [if_neg hl1] at h4; exact h4.elim
  · rw [if_neg hl] at h1; exact h1.elim
theorem do_lc2 {elt tg iter tg1 iter1 : Expr} {ifs ifs1 : List Expr} {scope : Scope} {fi fi1 : AM} {gm gm1 : GM} {tm tm1 : TM} {em : EM} {ns ns1 : List Nat} (own : List (Str × Nat)) (vs1 : List Nat) (hc : X.calm = true) (hN : X.N.Nodup) (hi : DI X g E tg iter fi) (ok : BlkOk X.N X.env.scope scope own)
    (hg : ∀ (s : Shared) (H : Hp) (C : Addr) (cl : List (Str × Addr)) (fp : List Addr), DG (X.blk s H scope (compEnvC scope cl C X.env) fp) g tg ns gm) (ht : ∀ (s : Shared) (H : Hp) (C : Addr) (cl : List (Str × Addr)) (fp : List Addr), DTs (X.blk s H scope (compEnvC scope cl C X.env) fp) g (kE E0) ifs tm)
    (hi1 : ∀ (s : Shared) (H : Hp) (C : Addr) (cl : List (Str × Addr)) (fp : List Addr), DI (X.blk s H scope (compEnvC scope cl C X.env) fp) g (kE E0) tg1 iter1 fi1)
    (hg1 : ∀ (s : Shared) (H : Hp) (C : Addr) (cl : List (Str × Addr)) (fp : List Addr), DG (X.blk s H scope (compEnvC scope cl C X.env) fp) g tg1 ns1 gm1) (ht1 : ∀ (s : Shared) (H : Hp) (C : Addr) (cl : List (Str × Addr)) (fp : List Addr), DTs (X.blk s H scope (compEnvC scope cl C X.env) fp) g (kE E0) ifs1 tm1)
    (he : ∀ (s : Shared) (H : Hp) (C : Addr) (cl : List (Str × Addr)) (fp : List Addr), DE (X.blk s H scope (compEnvC scope cl C X.env) fp) g (kE E0) elt em) (hn : ∀ i ∈ ns, i ∈ own.map (·.2) := by decide) (hn1 : ∀ i ∈ ns1, i ∈ vs1 := by decide) (hv : ∀ i ∈ vs1, i ∈ own.map (·.2) := by decide) (hs : ∀ x, foldedSetIterable iter X.env x = pure x := by intro _; rfl) (hs1 : ∀ env x, foldedSetIterable iter1 env x = pure x := by intro _ _; rfl) :
    DO X g E (.ListComp elt [⟨tg, iter, ifs, 0⟩, ⟨tg1, iter1, ifs1, 0⟩] scope pos) (oLc2 fi gm tm fi1 gm1 tm1 em (own.map (·.2)) vs1) := by
  obtain ⟨wi, p, ri⟩ := hi.run
  exact ⟨_, pe_lc2 hc hN p ok hv (fun s H C cl fp => (hg s H C cl fp).pg) (fun s H C cl fp => (ht s H C cl fp).pts) (fun s H C cl fp => (hi1 s H C cl fp).pi) (fun s H C cl fp => (hg1 s H C cl fp).pg) (fun s H C cl fp => (ht1 s H C cl fp).pts) (fun s H C cl fp => (he s H C cl fp).pe) hs hs1, lc2_run hn hn1 ri⟩
end
end Y
namespace Y
open PySem PySem.Spec PyProof.Rows L2
section
variable {X : Cx}
end
end Y
namespace Y
open PySem PySem.Spec PyProof.Rows L2
def tS (g : G) (F0 : FH) (H0 : Hp) (E : EK) (m : SM) : TS := fun N σ H => ∃ F S w B, RelS g F0 H0 B F w S σ H ∧ PostS g F0 H0 B E N (m S w)
theorem DSs.pss {X : Cx} {g : G} {E : EK} {F0 : FH} {H0 : Hp} {sts : List Stmt} {m : SM} (h : DSs X g E F0 H0 sts m) : PSs X sts (tS g F0 H0 E m) := by
  obtain ⟨t, p, r⟩ := h.run
  exact ⟨fun pins s σ H N I ⟨F, S, w, B, R, q⟩ => p.run pins s σ H N I (r N σ H F S w B R q)⟩
section
variable {X : Cx} {g : G} {E : EK} {F0 : FH} {H0 : Hp} {x : Str} {cs : List Str} {b : Bool} {body : List Stmt} {mb : SM} {np pos pos' p1 p2 : Pos} {k1 : Nat}
end
end Y
namespace Y
open PySem PySem.Spec PyProof.Rows L2
section
variable {T : Tell} {w : World} {h : Heap} {K : Fr}
theorem Says.q (S : Says T w h K) (i : Nat) {q : Qy} (e : T.chk[i]? = some q := by rfl) : q.l K = q.r K := Qy.says (S.ck q (List.mem_of_getElem? e))
theorem fn_get {x : FnA} (hx : x.dfl = false) (e1 : seeF K (x.ad K) = x.due) (e2 : FnA.ok K x = true) : ∃ oc od cl kV doc pm an cdv ct sl, K.lookup (x.ad K) = some ⟨oc, od, .func (PySem.W.fnX x.nam x.qua (defArgs x.st) (defBody x.st) (defScope x.st) cl .none kV doc pm an cdv ct), sl⟩ ∧ cl.map Prod.fst = x.clo ∧ PySem.W.codeIn K cdv x.qua = true ∧ PySem.W.keepIn K (.ref (x.ad K)) = true := by
  unfold FnA.ok at e2
  unfold seeF at e1
  cases q : K.lookup (x.ad K) with
  | none => rw [q] at e2; cases e2
  | some o =>
    obtain ⟨oc, od, dt, osl⟩ := o
    rw [q] at e1 e2
    cases dt with
    | func fd =>
      obtain ⟨n1, n2, n3, n4, n5, n6, n7, n8, n9, n10, n11, n12, n13, n14, n15⟩ := fd
      obtain ⟨c1, c2⟩ := He.ba e2
      obtain ⟨c3, c4⟩ := He.ba c2
      have e3 := Option.some.inj e1
      simp only [FnA.due, Option.some.injEq, Prod.mk.injEq] at e1
      obtain ⟨⟨h1, h2⟩, ⟨h3, h4, h5⟩, ⟨h6, h7⟩, h8⟩ := e1
      rw [hx, Bool.false_or] at c3
      have h9 : n8 = .none := of_decide_eq_true c3
      subst h1 h2 h3 h4 h5 h6 h7 h9
      exact ⟨oc, od, n7, n9, n10, n11, n12, n13, n14, osl, rfl, h8, c1, c4⟩
    | _ => cases e2
theorem Says.fnX (S : Says T w h K) (i : Nat) {x : FnA} (e : T.fns[i]? = some x) (hx : x.dfl = false) : ∃ oc od cl kV doc pm an cdv ct sl, K.lookup (x.ad K) = some ⟨oc, od, .func (PySem.W.fnX x.nam x.qua (defArgs x.st) (defBody x.st) (defScope x.st) cl .none kV doc pm an cdv ct), sl⟩ ∧ cl.map Prod.fst = x.clo ∧ PySem.W.codeIn K cdv x.qua = true ∧ PySem.W.keepIn K (.ref (x.ad K)) = true := by
  have e2 : (T.fns.map fun x => seeF K (x.ad K))[i]? = (T.fns.map FnA.due)[i]? := by rw [S.fn]
  rw [List.getElem?_map, List.getElem?_map, e] at e2
  exact fn_get hx (Option.some.inj e2) (S.fo x (List.mem_of_getElem? e))
/-- a def or a method without a closure -/
theorem Says.f (S : Says T w h K) (i : Nat) {x : FnA} (e : T.fns[i]? = some x := by rfl) (hc : x.clo = [] := by rfl) (hx : x.dfl = false := by rfl) : ∃ fd, Fun K x.nam x.qua x.st (x.ad K) fd := by
  obtain ⟨oc, od, cl, kV, doc, pm, an, cdv, ct, sl, lk, h1, h2, h3⟩ := S.fnX i e hx
  rw [hc] at h1
  have : cl = [] := List.map_eq_nil_iff.mp h1
  subst this
  exact ⟨_, ⟨oc, od, kV, doc, pm, an, cdv, ct, sl, rfl, lk, h2⟩, h3⟩
/-- the object that a class's name is read as, by way of its own get -/
theorem isGet_ok {C p : Addr} {m : Str} {b : String} (e : isGet K C m p b = true) : PySem.W.findCls K (.ref C) (.type "type") m = some (.get (.builtin b) (.ref p) .none (.ref C)) := by
  unfold isGet at e
  split at e
  · rename_i z q D hq
    obtain ⟨e1, e2⟩ := He.ba e
    obtain ⟨e2, e3⟩ := He.ba e2
    rw [hq, of_decide_eq_true e1, of_decide_eq_true e2, of_decide_eq_true e3]
  · cases e
theorem isVal_ok {C : Addr} {m : Str} {i : Int} (e : isVal K C m i = true) : ∃ t, PySem.W.findCls K (.ref C) (.type "type") m = some (.val (.int i t)) := by
  unfold isVal at e
  split at e
  · rename_i j t hq; rw [hq, of_decide_eq_true e]; exact ⟨t, rfl⟩
  · cases e
theorem glb_strB {X : K.In h} {mg : Str → Option Value} (G : h.Ns mainGlobals mg) {x z : Str} (e : (He.Fa.str x z).ok K = true) : Glb K mg x (.str z) := by
  obtain ⟨t, ht⟩ := He.str_ok X G e
  exact glb_str ht
theorem glb_tupB {X : K.In h} {mg : Str → Option Value} (G : h.Ns mainGlobals mg) {x : Str} {vs : List He.Dv} {ds : List D} (hm : PySem.W.nsIn K mainGlobals x = some (some (.ref (He.ga K x)))) (e : He.tupB K x vs = true) (hd : ∀ (g : Y.G) (F : FH), DRs g F (vs.map (He.Dv.v K)) ds) : Glb K mg x (.tup ds) :=
  ⟨.ref (He.ga K x), _, PySem.W.mg_of X G hm, rfl, fun g F hg => .tup (by rw [hg]; exact He.tupB_ok e F) (hd g F)⟩
theorem Says.lamt (S : Says T w h K) (i : Nat) {x : Str} (e : T.lam[i]? = some x) : PySem.W.tabIn K x = some (lamC K x, lamP K x) ∧ PySem.W.codeHdIn K (lamC K x) (lamP K x) = true ∧ K.lookup (lamP K x) = none ∧ h.get? (lamP K x) = some { cls := .none, data := .fields #[] } := by
  obtain ⟨c, P, h1, h2, h3, h4⟩ := S.lm x (List.mem_of_getElem? e)
  have e1 : lamC K x = c := by unfold lamC; rw [h1]
  have e2 : lamP K x = P := by unfold lamP; rw [h1]
  rw [e1, e2]
  exact ⟨h1, h2, h3, h4⟩
theorem fun_one {x q : Str} {st : Stmt} {f : Addr} {fd fd2 : FuncData} (F : Fun K x q st f fd) (F2 : Fun K x q st f fd2) : fd = fd2 := by
  obtain ⟨_, _, _, _, _, _, _, _, _, _, l1, _⟩ := F.ex
  obtain ⟨_, _, _, _, _, _, _, _, _, _, l2, _⟩ := F2.ex
  rw [l1] at l2
  cases l2
  rfl
theorem name_eq {mg : Str → Option Value} {x y : Str} {v : Value} (e : x = y) (hm : mg x = some v) : mg y = some v := e ▸ hm
end
end Y
namespace Y
open PySem PySem.Spec PyProof.Rows L2
section
variable {X : Cx}
end
end Y
namespace Y
open PySem PySem.Spec PyProof.Rows L2
section
variable {X : Cx} {pins : List (Addr × Obj)} {σ : L2.St} {H : Hp} {s : Shared}
end
end Y
namespace Y
open PySem PySem.Spec PyProof.Rows L2
section
variable {X : Cx} {pins : List (Addr × Obj)} {σ : L2.St} {H HZ : Hp} {s s1 : Shared}
end
end Y
namespace Y
open PySem PySem.Spec PyProof.Rows L2
section
variable {X : Cx} {g : G} {E : EK} {x y z : Str} {tbl : List (Str × Str)}
end
end Y
namespace Y
open PySem PySem.Spec PyProof.Rows L2
section
variable {X : Cx} {g : G} {E : EK} {x y z : Str} {tbl : List (Str × Str)}
end
end Y
namespace Y
open PySem PySem.Spec PyProof.Rows L2
section
variable {g : G} {F : FH} {H : Hp} {w : Bx}
end
section
variable {X : Cx} {g : G} {E : EK} {F0 : FH} {H0 : Hp} {B : FH}
end
end Y
namespace Y
open PySem PySem.Spec PyProof.Rows L2
section
variable {S S1 : SL} {w w1 w2 : Bx} {c f T : Str} {fs : List (Str × D)} {d z : D} {fe fa fb : EM} {ds : List D} {m k : SM}
theorem x_raise (h : fe S w = .ok d w1) : sRaise c f T fe S w = .err S c [("tag", .str T), (f, d)] w1 := by unfold sRaise; rw [h]; rfl
theorem x_runIE {n l : Nat} {body : SM} {c' : Str} (hl : ds.length + 1 = n) (h : body (startI l c' ds) w = .err S1 c fs w1) : runI c' n l body ds w = .err c fs w1 := by unfold runI; rw [if_pos hl, h]; rfl
theorem x_makeE {n : Nat → Bool} {mi : List D → Bx → R (List (Str × D))} {am : AM} {c' : Str} (ha : am S w = .ok ds w1) (hn : n ds.length = true) (hm : mi ds w1 = .err c fs w2) : eMake c' n mi am S w = .err c fs w2 := by
  unfold eMake; rw [ha, R.bind_ok, if_pos hn, hm]; rfl
theorem x_retE (h : fe S w = .err c fs w1) : sRet fe S w = .err S c fs w1 := by unfold sRet; rw [h]; rfl
theorem x_refE {tbl : List (Str × Str)} {F : Str} {t v : D} (h : fb S w = .err c fs w1) (h1 : tbl.lookup c = some F) (h2 : fs.lookup ("tag" : Str) = some t) (h3 : refF fs F = some v) : eRef tbl fb S w = .ok (.tup [t, v]) w1 := by
  unfold eRef refD; rw [h]; simp only [h1, h2, h3]
theorem x_refO {tbl : List (Str × Str)} (h : fb S w = .ok d w1) : eRef tbl fb S w = .ok (.tup [.str "", .non]) w1 := by unfold eRef refD; rw [h]
theorem x_ifTE (h : m S w1 = .err S1 c fs w2) {t : TM} (ht : t S w = .ok true w1) : sIf t m k S w = .err S1 c fs w2 := by unfold sIf; rw [ht]; exact h
end
end Y
namespace Y
open PySem PySem.Spec PyProof.Rows L2
mutual
def rig : D → Bool
  | .non => true
  | .int _ => true
  | .str _ => true
  | .lst ds => rigs ds
  | .tup ds => rigs ds
  | _ => false
def rigs : List D → Bool
  | [] => true
  | d :: ds => rig d && rigs ds
end
mutual
theorem eqv_rig : ∀ (d e : D) (p q : PyData), rig d = true → rig e = true → toPy d = some p → toPy e = some q → (PyData.eqv p q = true ↔ d = e)
  | .non, e, p, q, _, he, hp, hq => by
    rw [toPy] at hp; cases hp
    cases e <;> simp only [rig] at he <;> first | cases he | skip
    all_goals rw [toPy] at hq
    · cases hq; simp [PyData.eqv]
    · cases hq; simp [PyData.eqv]
    · cases hq; simp [PyData.eqv]
    · obtain ⟨ps, _, rfl⟩ := Option.map_eq_some_iff.mp hq; simp [PyData.eqv]
    · obtain ⟨ps, _, rfl⟩ := Option.map_eq_some_iff.mp hq; simp [PyData.eqv]
  | .int i, e, p, q, _, he, hp, hq => by
    rw [toPy] at hp; cases hp
    cases e <;> simp only [rig] at he <;> first | cases he | skip
    all_goals rw [toPy] at hq
    · cases hq; simp [PyData.eqv]
    · cases hq; simp [PyData.eqv]
    · cases hq; simp [PyData.eqv]
    · obtain ⟨ps, _, rfl⟩ := Option.map_eq_some_iff.mp hq; simp [PyData.eqv]
    · obtain ⟨ps, _, rfl⟩ := Option.map_eq_some_iff.mp hq; simp [PyData.eqv]
  | .str i, e, p, q, _, he, hp, hq => by
    rw [toPy] at hp; cases hp
    cases e <;> simp only [rig] at he <;> first | cases he | skip
    all_goals rw [toPy] at hq
    · cases hq; simp [PyData.eqv]
    · cases hq; simp [PyData.eqv]
    · cases hq; simp [PyData.eqv]
    · obtain ⟨ps, _, rfl⟩ := Option.map_eq_some_iff.mp hq; simp [PyData.eqv]
    · obtain ⟨ps, _, rfl⟩ := Option.map_eq_some_iff.mp hq; simp [PyData.eqv]
  | .lst ds, e, p, q, hd, he, hp, hq => by
    rw [toPy] at hp
    obtain ⟨xs, ex, rfl⟩ := Option.map_eq_some_iff.mp hp
    cases e <;> simp only [rig] at he <;> first | cases he | skip
    all_goals rw [toPy] at hq
    · cases hq; simp [PyData.eqv]
    · cases hq; simp [PyData.eqv]
    · cases hq; simp [PyData.eqv]
    · obtain ⟨ps, e1, rfl⟩ := Option.map_eq_some_iff.mp hq
      have := eqvs_rig ds _ xs ps (by simpa [rig] using hd) he ex e1
      simp [PyData.eqv, this]
    · obtain ⟨ps, _, rfl⟩ := Option.map_eq_some_iff.mp hq; simp [PyData.eqv]
  | .tup ds, e, p, q, hd, he, hp, hq => by
    rw [toPy] at hp
    obtain ⟨xs, ex, rfl⟩ := Option.map_eq_some_iff.mp hp
    cases e <;> simp only [rig] at he <;> first | cases he | skip
    all_goals rw [toPy] at hq
    · cases hq; simp [PyData.eqv]
    · cases hq; simp [PyData.eqv]
    · cases hq; simp [PyData.eqv]
    · obtain ⟨ps, _, rfl⟩ := Option.map_eq_some_iff.mp hq; simp [PyData.eqv]
    · obtain ⟨ps, e1, rfl⟩ := Option.map_eq_some_iff.mp hq
      have := eqvs_rig ds _ xs ps (by simpa [rig] using hd) he ex e1
      simp [PyData.eqv, this]
  | .bl _, _, _, _, hd, _, _, _ => by simp [rig] at hd
  | .box, _, _, _, hd, _, _, _ => by simp [rig] at hd
  | .obj _ _, _, _, _, hd, _, _, _ => by simp [rig] at hd
  | .dct _, _, _, _, hd, _, _, _ => by simp [rig] at hd
  | .cel _, _, _, _, hd, _, _, _ => by simp [rig] at hd
theorem eqvs_rig : ∀ (ds es : List D) (ps qs : List PyData), rigs ds = true → rigs es = true → toPys ds = some ps → toPys es = some qs → (PyData.eqvAll ps qs = true ↔ ds = es)
  | [], [], ps, qs, _, _, hp, hq => by rw [toPys] at hp hq; cases hp; cases hq; simp [PyData.eqvAll]
  | [], e :: es, ps, qs, _, _, hp, hq => by
    rw [toPys] at hp; rw [toPys] at hq; cases hp
    obtain ⟨y, _, h2⟩ := Option.bind_eq_some_iff.mp hq
    obtain ⟨ys, _, h3⟩ := Option.bind_eq_some_iff.mp h2
    cases h3; simp [PyData.eqvAll]
  | d :: ds, [], ps, qs, _, _, hp, hq => by
    rw [toPys] at hp; rw [toPys] at hq; cases hq
    obtain ⟨y, _, h2⟩ := Option.bind_eq_some_iff.mp hp
    obtain ⟨ys, _, h3⟩ := Option.bind_eq_some_iff.mp h2
    cases h3; simp [PyData.eqvAll]
  | d :: ds, e :: es, ps, qs, hd, he, hp, hq => by
    rw [toPys] at hp hq
    obtain ⟨x, x1, h2⟩ := Option.bind_eq_some_iff.mp hp
    obtain ⟨xs, x2, h3⟩ := Option.bind_eq_some_iff.mp h2
    cases h3
    obtain ⟨y, y1, h2⟩ := Option.bind_eq_some_iff.mp hq
    obtain ⟨ys, y2, h3⟩ := Option.bind_eq_some_iff.mp h2
    cases h3
    rw [rigs, Bool.and_eq_true] at hd he
    have a := eqv_rig d e x y hd.1 he.1 x1 y1
    have b := eqvs_rig ds es xs ys hd.2 he.2 x2 y2
    simp [PyData.eqvAll, a, b]
end
theorem eqB_rig {n m : Nat} {d e : D} (hd : niceN n d) (he : niceN m e) (hn : n ≤ 64 := by decide) (hm : m ≤ 64 := by decide) (rd : rig d = true) (re : rig e = true) : ∃ b : Bool, eqB d e = some b ∧ (b = true ↔ d = e) := by
  obtain ⟨p, p1, p2⟩ := nice_shp hd hn
  obtain ⟨q, q1, q2⟩ := nice_shp he hm
  have key := eqv_rig d e p q rd re p1 q1
  have gen : (shp d).bind (fun p => (shp e).bind fun q => some (PyData.eqv p q)) = some (PyData.eqv p q) := by rw [p2, q2]; rfl
  unfold eqB
  split
  · exact ⟨_, rfl, by simp⟩
  · exact ⟨_, rfl, by simp⟩
  · exact ⟨_, rfl, by simp⟩
  · exact ⟨_, gen, key⟩
theorem mEq_rig {n m : Nat} {d e : D} (hd : niceN n d) (he : niceN m e) (hn : n ≤ 64 := by decide) (hm : m ≤ 64 := by decide) (rd : rig d = true) (re : rig e = true) : ∃ b : Bool, mEq d e = some (.bl b) ∧ mNe d e = some (.bl !b) ∧ (b = true ↔ d = e) := by
  obtain ⟨b, h1, h2⟩ := eqB_rig hd he hn hm rd re
  exact ⟨b, by unfold mEq; rw [h1]; rfl, by unfold mNe; rw [h1]; rfl, h2⟩
end Y
namespace Y
open PySem PySem.Spec PyProof.Rows L2
/-- an item of the search -/
structure It5 where
  p : Nat
  q : Nat
  r : Nat
  s : Nat
  c : Nat
def pairs (R : Nat) : List (Nat × Nat) := (List.range (R + 1)).flatMap fun i => (List.range (R + 1)).map fun j => (i, j)
def items (R : Nat) : List It5 := (pairs R).flatMap fun x => (pairs R).flatMap fun y => [97, 98].map fun c => ⟨x.1, x.2, y.1, y.2, c⟩
end Y
namespace Y
open PySem PySem.Spec PyProof.Rows L2
end Y
namespace Y
open PySem PySem.Spec PyProof.Rows L2
section
variable {S S1 S2 : SL} {w w1 w2 w3 : Bx} {m k : SM} {f fa fb fo : EM} {fs : AM} {t ta tb : TM} {d e z : D} {ds es : List D} {i j : Nat} {b : Bool} {r r1 : RS} {c n : Str}
end
theorem ne_same {n : Nat} {d : D} (h : niceN n d) (hn : n ≤ 64 := by decide) (r : rig d = true) : mNe d d = some (.bl false) := by
  obtain ⟨b, _, e, hb⟩ := mEq_rig h h hn hn r r
  rw [e, hb.mpr rfl]; rfl
theorem eq_same {n : Nat} {d : D} (h : niceN n d) (hn : n ≤ 64 := by decide) (r : rig d = true) : mEq d d = some (.bl true) := by
  obtain ⟨b, e, _, hb⟩ := mEq_rig h h hn hn r r
  rw [e, hb.mpr rfl]
/-- what is told of an error is what is due -/
theorem ne_tag {s : Str} {d : D} {n : Nat} (hs : PyData.strOk s = true) (hd : niceN n d) (hn : n ≤ 60 := by decide) (r : rig d = true := by rfl) : mNe (.tup [.str s, d]) (.tup [.str s, d]) = some (.bl false) :=
  ne_same (n := n + 1) (nice_tupl (nice_cons (by cases n <;> exact hs) (nice_cons hd nice_nil))) (by omega) (by simp only [rig, rigs, r, Bool.and_true])
end Y
namespace Y
open PySem PySem.Spec PyProof.Rows L2
section
variable {X : Cx} {g : G} {E : EK} {e a b o v1 v2 : Expr} {es rest : List Expr} {pos p p2 : Pos} {f fa fb fo : EM} {fs : List EM} {x c m : Str} {k n : Nat} {mm : List D → Bx → R D}
def rLenI (C : Addr) (sp : Sp) (E : XK) : List V → Hp → VK → Prop := fun xs H Q => ∃ a dx fs, xs = [.ref a] ∧ H a = some (.ins C dx fs) ∧ sp [.ref a] H (fun v H' => ∃ n : Int, v = .int n ∧ 0 ≤ n ∧ n < 2 ^ 63 ∧ Q (.int n) H') E
theorem call_lenI {E : XK} {C f : Addr} {sp : Sp} (F : FnR X.prog X.w X.K X.mg X.base (L2N.CX X.prog X.w) k f sp) (hr : Room (k + 1) X.A) (hx : Passes (L2N.CX X.prog X.w) X E) (hs : PySem.W.findIn X.K (.ref C) "__len__" = some (some (.ref f))) (hf : PySem.W.isFn X.K (.ref f) = true) :
    CallR X (.builtin "len") (rLenI C sp E) := by
  intro pins s σ H xs us Q I r h
  obtain ⟨a, dx, fs, rfl, ha, q⟩ := h
  obtain ⟨u, rfl, rx⟩ := vals1 r
  cases rx
  obtain ⟨mA, J, _⟩ := ins_get I.hok ha
  obtain ⟨od, J, _⟩ := J.look
  obtain ⟨m, hF⟩ := I.fr
  refine PySem.W.len_K hF I.ok.mod.kin J hs hf ?_
  have e0 : Env0 X.prog X.w X.K X.mg X.base X.A.in1 X.stack s H := by
    have e := I.env0
    exact ⟨e.frames, e.mod, e.bs, e.bsz, e.funs, e.frf, e.hok, e.bare⟩
  refine wpAny_call (codeAny_mono (F X.A.in1 X.stack s H [.ref a] [.ref a] _ E hr.in1 e0 (.cons rfl .nil) q) fun r s' hq => ?_)
  cases r with
  | error e => exact hx pins σ H s e s' I hq
  | ok fl =>
    cases fl with
    | ret u =>
      obtain ⟨z, H', I', rz, n, ez, h0, h1, qz⟩ := I.after hq
      subst ez
      obtain ⟨tk, rfl⟩ := rz
      exact ⟨⟨h0, h1⟩, .int n, H', I'.tok _, ⟨_, rfl⟩, qz⟩
    | next => exact False.elim hq
    | brk => exact False.elim hq
    | cont => exact False.elim hq
def lenR : R D → R D
  | .ok (.int n) w => if 0 ≤ n ∧ n < 2 ^ 63 then .ok (.int n) w else .bad
  | _ => .bad
def eLenI (c : Str) (mm : List D → Bx → R D) (fa : EM) : EM := fun S w => (fa S w).bind fun d w1 => if isCls c d then lenR (mm [d] w1) else .bad
theorem de_lenI {E : XK} (hK : g.K = X.K) (M : MthK X.prog X.w X.K X.mg X.base g.cls c "__len__" k 1 mm) (hr : Room (k + 1) X.A) (hx : Passes (L2N.CX X.prog X.w) X E) (hm : X.mg "len" = none) (ha : DE X g (kE E) a fa) (hg : Gl X "len" := by rfl)
    (he : starEach [a] X.env = (false, eval a X.env) :: starEach [] X.env := by rfl) (hpl : (backTo pos (starEach [] X.env)).any (·.1) = false := by rfl) : DE X g (kE E) (.Call (.Name "len" p) [a] [] pos) (eLenI c mm fa) := by
  obtain ⟨C, f, fd, ps, hc, _, me, F, bi⟩ := M.ex
  obtain ⟨ta, pa, ra⟩ := ha.run
  refine ⟨_, pe_callB (call_lenI (raw_spM (g := g) F bi) hr hx me.at_ me.fn) hg hm PySem.boot_len (pa_cons pa pa_nil he) (by decide) (by decide) he hpl, fun σ H Q F S w R h => ?_⟩
  refine ra σ H _ F S w R (PostG.imp (PostG.bind h) fun d w1 hd h1 v H1 F1 x1 r1 => ?_)
  by_cases hd : isCls c d = true
  · rw [if_pos hd] at h1
    obtain ⟨q, C', dx, vs, ev, hc', hq⟩ := r1.isCls hd
    obtain rfl : C' = C := Option.some.inj (hc'.symm.trans hc)
    subst ev
    refine ⟨q, dx, vs, rfl, x1.sub _ _ hq, ?_⟩
    rw [← hK]
    refine ⟨rfl, g.bq, F1, [d], w1, x1.sub, x1.bx, .cons r1 .nil, ?_⟩
    cases hmm : mm [d] w1 with
    | ok z w2 =>
      rw [hmm] at h1
      cases z with
      | int n =>
        simp only [lenR] at h1
        by_cases hn : 0 ≤ n ∧ n < 2 ^ 63
        · rw [if_pos hn] at h1
          intro v H' F' x r
          cases r
          exact ⟨n, rfl, hn.1, hn.2, h1 (.int n) H' F' (x1.trans x) (.int _)⟩
        · rw [if_neg hn] at h1; exact h1.elim
      | _ => exact h1.elim
    | _ => rw [hmm] at h1; exact h1.elim
  · rw [if_neg hd] at h1; exact h1.elim
end
section
variable {S : SL} {w w1 w2 : Bx} {f : EM} {d : D} {fs : List EM} {acc y : Str} {r : R D} {c : Str} {mm : List D → Bx → R D} {n : Int}
theorem x_lenI (h : f S w = .ok d w1) (hc : isCls c d = true) (hm : mm [d] w1 = .ok (.int n) w2) (h0 : 0 ≤ n ∧ n < 2 ^ 63) : eLenI c mm f S w = .ok (.int n) w2 := by
  unfold eLenI; rw [h, R.bind_ok, if_pos hc, hm]; unfold lenR; simp only [if_pos h0]
end
end Y
namespace Y
open PySem PySem.Spec PyProof.Rows L2
/-- one turn of a clause with a body -/
abbrev turnB (tg : Expr) (ip : Pos) (k : Nat) (LC : Expr) (B : Sem Fin → Sem Fin) (it acc : Value) (env : Env) : Sem Fin := do
  standAt ip
  match ← pyNext it with
  | none => pure (.done .next)
  | some v =>
    letOwnedTupleGo tg it v
    assign tg env v
    B (again (.compLoop LC k it acc env))
section
variable {P : Program} {w : World} {A : Around} {R : Result → Shared → Prop} {s : Shared} {tg elt : Expr} {gs : List Comprehension} {scope : Scope} {pos : Pos} {ip : Pos} {k : Nat} {B : Sem Fin → Sem Fin} {it acc : Value} {env : Env}
/-- the loop of a clause, by its body -/
theorem loopB (hT : compTurn (.ListComp elt gs scope pos) k it acc env = turnB tg ip k (.ListComp elt gs scope pos) B it acc env) (I : Nat → Shared → Prop)
    (go : ∀ n s, I n s → wpAny (model P w) A (pyNext it) (fun r s1 => match r with
      | none => R (.ok .next) s1
      | some v => wpAny (model P w) A (letOwnedTupleGo tg it v) (fun _ s2 => wpAny (model P w) A (assign tg env v) (fun _ s3 => wpAny (model P w) A (B (again (.compLoop (.ListComp elt gs scope pos) k it acc env))) (fun fin s' => match fin with | .done f => R (.ok f) s' | .again c' => c' = .compLoop (.ListComp elt gs scope pos) k it acc env ∧ ∃ m, m < n ∧ I m s') (notedBy (model P w) A env fun e s' => R (.error e) s') s3)
        (notedBy (model P w) A env fun e s' => R (.error e) s') s2) (notedBy (model P w) A env fun e s' => R (.error e) s') s1) (notedBy (model P w) A env fun e s' => R (.error e) s') s) (n : Nat) (h : I n s) :
    codeAny (model P w) A (.compLoop (.ListComp elt gs scope pos) k it acc env) R s := by
  refine codeAny_loop rfl I (fun n s hI => ?_) n h
  show wpAny _ A ((compTurn (.ListComp elt gs scope pos) k it acc env).onRaise fun x => do noteFrame x env; theTreesLotGoes x) _ _ s
  refine wpAny_noted ?_
  rw [hT]
  refine wpAny_bind (wpAny_standAt (wpAny_bind (wpAny_mono (go n s hI) (fun r s1 h1 => ?_) fun _ _ z => z)))
  cases r with
  | none => exact wpAny_pure h1
  | some v =>
    exact wpAny_bind (wpAny_mono h1 (fun _ s2 h2 => wpAny_bind (wpAny_mono h2 (fun _ s3 h3 => h3) fun _ _ z => z)) fun _ _ z => z)
/-- a later clause's start -/
theorem startB (hg : ((clausesOf (.ListComp elt gs scope pos))[k]?).elim false (·.is_async != 0) = false) (h0 : codeAny (model P w) A (.compLoop (.ListComp elt gs scope pos) k it acc env) R s)
    (h : wpAny (model P w) A (pyIter it) (fun it' s' => codeAny (model P w) A (.compLoop (.ListComp elt gs scope pos) k it' acc env) R s') (notedBy (model P w) A env fun x s' => R (.error x) s') s) : codeAny (model P w) A (.compStart (.ListComp elt gs scope pos) k it acc env) R s := by
  refine codeAny_of_tree ?_
  show wpAny _ _ ((compStart (.ListComp elt gs scope pos) k it acc env).onRaise fun x => do noteFrame x env; standAt theWindowsPlace) _ _ s
  refine wpAny_notedAt ?_
  unfold compStart
  rw [hg]
  show wpAny _ _ (ask >>= _) _ _ s
  refine wpAny_bind (wpAny_askSetting (wpAny_ite ?_))
  split
  · first
      | exact wpAny_pure ⟨rfl, h0⟩
      | exact wpAny_bind (wpAny_pure (wpAny_pure ⟨rfl, h0⟩))
  · refine wpAny_bind (wpAny_rule ?_)
    cases (clausesOf (.ListComp elt gs scope pos))[k]? with
    | none =>
      first
        | exact wpAny_bind (wpAny_mono h (fun it' s' z => wpAny_pure ⟨rfl, z⟩) fun _ _ z => z)
        | exact wpAny_bind (wpAny_pure (wpAny_bind (wpAny_mono h (fun it' s' z => wpAny_pure ⟨rfl, z⟩) fun _ _ z => z)))
    | some gg => exact wpAny_bind (wpAny_standAt (wpAny_bind (wpAny_mono h (fun it' s' z => wpAny_pure ⟨rfl, z⟩) fun _ _ z => z)))
end
abbrev TB : Type := L2.St → Hp → (Hp → Prop) → Prop
/-- a body: what it asks; the slots us are no more known behind it -/
def PB (X : Cx) (us : List Nat) (B : Sem Fin → Sem Fin) (tb : TB) : Prop := ∀ (pins : List (Addr × Obj)) (s : Shared) (σ : L2.St) (H : Hp) (Nx : Hp → Prop) (k : Sem Fin) (Q : Fin → Shared → Prop) (E : Value → Shared → Prop), Inv X pins σ H s → tb σ H Nx →
  (∀ s' H', Inv X pins (wipe σ us) H' s' → Nx H' → wpAny (model X.prog X.w) X.A k Q E s') → wpAny (model X.prog X.w) X.A (B k) Q E s
/-- the innermost body: the element goes onto the list -/
abbrev appB (elt : Expr) (acc : Value) (env : Env) (k : Sem Fin) : Sem Fin := do
  (do let _ ← call (.builtin "list.append") [acc, ← eval elt env])
  k
def tApp (te : TE) (D : Addr) : TB := fun σ H Nx => te σ H fun y H1 => ∃ acc, H1 D = some (.lst acc) ∧ acc.length < sizeLine ∧ Nx (upd H1 D (.lst (acc ++ [y])))
abbrev lvlB (LC iter : Expr) (k : Nat) (acc : Value) (env : Env) (next : Sem Fin) : Sem Fin := do
  let x ← eval iter env
  standAt iter.pos
  let x ← foldedSetIterable iter env x
  let _ ← runOwn (.compStart LC k (← holding [x] (pyIter x)) acc env) env
  next
def tLvl (wi : TI) (g : TG) (vs : List Nat) (tb : Addr → TB) (D : Addr) : TB := fun σ H Nx => wi σ H fun J H1 => ∃ W : Nat → Nat → Hp → Prop, (∃ m, W 0 m H1) ∧ ∀ j m H, W j m H →
  (J.stop j H ∧ Nx H) ∨ (J.go j H ∧ ∃ N1 : Hp → Prop, (∀ H', N1 H' → ∃ m', m' < m ∧ W (j + 1) m' H') ∧ ∀ x H', J.yld j H x H' → g x (wipe σ vs) H' fun σ1 H2 => wipe σ1 vs = wipe σ vs ∧ tb D σ1 H2 N1)
section
variable {X : Cx}
theorem pb_app {D : Addr} {elt : Expr} {te : TE} (he : PE X elt te) (hxe : X.xe = fun _ _ => False) : PB X [] (appB elt (.ref D) X.env) (tApp te D) := by
  intro pins s σ H Nx k Q E I h hk
  have q := he.run pins s σ H _ I h
  rw [hxe] at q
  refine wpAny_bind (wpAny_bind (thnF q fun z s1 ⟨yv, H1, I1, r1, acc, hD, hz, nx⟩ => ?_))
  exact wpAny_bind (app_ok I1 hD hz r1 fun s2 I2 => wpAny_pure (hk s2 _ I2 nx))
theorem wipe_sub {σ : L2.St} {us vs : List Nat} (h : ∀ i ∈ us, i ∈ vs) {j : Nat} {v : V} (e : (wipe σ vs)[j]? = some (some v)) : (wipe σ us)[j]? = some (some v) := by
  obtain ⟨e1, e2⟩ := wipe_some e
  rw [wipe_get, if_neg fun z => e2 (h j z)]
  exact e1
/-- a clause within -/
theorem pb_lvl {elt tg iter : Expr} {gs : List Comprehension} {scope : Scope} {pos : Pos} {k : Nat} {D : Addr} {wi : TI} {g : TG} {B : Sem Fin → Sem Fin} {us vs : List Nat} {tb : Addr → TB} (hi : PI X tg iter wi) (hg : PG X tg g) (hb : PB X us B (tb D)) (hu : ∀ i ∈ us, i ∈ vs)
    (hT : ∀ it, compTurn (.ListComp elt gs scope pos) k it (.ref D) X.env = turnB tg iter.pos k (.ListComp elt gs scope pos) B it (.ref D) X.env) (hcl : ((clausesOf (.ListComp elt gs scope pos))[k]?).elim false (·.is_async != 0) = false) (hxe : X.xe = fun _ _ => False) (hcalm : X.calm = true)
    (hloc : X.env.locals = X.env.locals) (hfold : ∀ x, foldedSetIterable iter X.env x = pure x) : PB X vs (lvlB (.ListComp elt gs scope pos) iter k (.ref D) X.env) (tLvl wi g vs tb D) := by
  intro pins s σ H Nx nk Q E I h hk
  have q := hi.run pins s σ H _ I h
  rw [hxe] at q
  refine wpAny_bind (thnF q fun xv s1 hx => wpAny_bind (wpAny_standAt (wpAny_bind (wpAny_of_eq (hfold xv) (wpAny_bind (wpAny_holding (thnF hx fun itv s2 h2 => ?_)))))))
  obtain ⟨it, fp, tn, J, H2, e, I2, T, st2, f2, W, ⟨m0, w0⟩, turn⟩ := h2
  subst e
  refine wpAny_bind (wpAny_runOwn ?_)
  rw [Around.mark_none]
  have stat : ∀ {H' : Hp}, (∀ b ∈ fp, H' b = none) → ∀ b ∈ fp, FpOk X pins H' b := fun hn b hb => ⟨hn b hb, (f2 b hb).2⟩
  have loop : codeAny (model X.prog X.w) X.A (.compLoop (.ListComp elt gs scope pos) k (.ref it) (.ref D) X.env) (fun r s' => match r with
      | .ok _ => ∃ H', Inv X pins (wipe σ vs) H' s' ∧ Nx H'
      | .error _ => False) s2 := by
    refine loopB (hT _) (fun n s' => ∃ j H', Inv X pins (wipe σ vs) H' s' ∧ tn j s'.heap ∧ (∀ b ∈ fp, H' b = none) ∧ W j n H') ?_ m0 ⟨0, H2, I2.weak (wipe_length _ _) (fun j v e => (wipe_some e).1), st2, fun b hb => (f2 b hb).1, w0⟩
    rintro n s3 ⟨j, H3, I3, st3, n3, w3⟩
    rcases turn j n H3 w3 with ⟨stop, nx⟩ | ⟨go, N1, hN1, step⟩
    · refine thnF (T.done X rfl rfl rfl hcalm j pins s3 (wipe σ vs) H3 (fun _ _ => False) I3 (stat n3) st3 stop) fun r s4 ⟨hr, I4⟩ => ?_
      subst hr
      exact ⟨_, I4, nx⟩
    · refine thnF (T.item X rfl rfl rfl hcalm j pins s3 (wipe σ vs) H3 (fun _ _ => False) I3 (stat n3) st3 go) fun r s4 ⟨u1, hr, h4⟩ => ?_
      subst hr
      refine thnF h4 fun _ s5 ⟨x1, H5, I5, r5, y5, st5, n5⟩ => ?_
      have q1 := hg.run _ s5 (wipe σ vs) H5 x1 u1 _ (I5.pinned (stat n5) (T.obj _ _ st5)) r5 (step x1 H5 y5)
      rw [hxe] at q1
      refine thnF q1 fun _ s6 ⟨σ6, H6, I6, hw6, q6⟩ => ?_
      refine hb _ s6 σ6 H6 N1 _ _ _ I6 q6 fun s7 H7 I7 nx => wpAny_pure ⟨rfl, ?_⟩
      obtain ⟨m', hm, w'⟩ := hN1 H7 nx
      have held : ∀ b ∈ fp, ∀ o, s5.heap.get? b = some o → s7.heap.get? b = some o ∧ H7 b = none := fun b hb o z =>
        let y := I7.pin (b, o) (List.mem_append_right _ (List.mem_append_right _ (mem_pinsAt hb z)))
        ⟨y.1, y.2.1⟩
      refine ⟨m', hm, j + 1, H7, I7.unpinned.weak (by rw [← hw6, wipe_length, wipe_length]) (fun j v z => ?_), T.keep _ _ _ st5 fun b hb o z => (held b hb o z).1, fun b hb => ?_, w'⟩
      · rw [← hw6] at z
        exact wipe_sub hu z
      · obtain ⟨o, z, _⟩ := T.obj _ _ st5 b hb
        exact (held b hb o z).2
  have fin : codeAny (model X.prog X.w) X.A (.compStart (.ListComp elt gs scope pos) k (.ref it) (.ref D) X.env) (fun r s' => match r with
      | .ok _ => ∃ H', Inv X pins (wipe σ vs) H' s' ∧ Nx H'
      | .error _ => False) s2 := startB hcl loop (T.self X.A 0 _ _ _ st2 loop)
  refine codeAny_mono fin fun r s' hr => ?_
  cases r with
  | error e => exact hr.elim
  | ok f =>
    obtain ⟨H', I', nx⟩ := hr
    first | exact hk s' H' I' nx | exact wpAny_bind (wpAny_pure (hk s' H' I' nx))
/-- [.. for tg in iter ..]: the outermost clause, by its body -/
def tLcB (wi : TI) (g : TG) (vs : List Nat) (tb : Addr → TB) : TE := fun σ H Q => wi σ H fun J H1 => ∀ D, H1 D = none → ∃ W : Nat → Nat → Hp → Prop, (∃ m, W 0 m (upd H1 D (.lst []))) ∧ ∀ i m H, W i m H →
  (J.stop i H ∧ Q (.ref D) H) ∨ (J.go i H ∧ ∃ Nx : Hp → Prop, (∀ H', Nx H' → ∃ m', m' < m ∧ W (i + 1) m' H') ∧ ∀ x H', J.yld i H x H' → g x (wipe σ vs) H' fun σ2 H2 => wipe σ2 vs = wipe σ vs ∧ tb D σ2 H2 Nx)
theorem pe_lcB {elt tg iter : Expr} {rest : List Comprehension} {scope : Scope} {own : List (Str × Nat)} {pos : Pos} {wi : TI} {g : TG} {us : List Nat} {B : Value → Env → Sem Fin → Sem Fin} {tb : Addr → TB} (hcalm : X.calm = true) (hnd : X.N.Nodup) (hit : PI X tg iter wi) (bok : BlkOk X.N X.env.scope scope own)
    (hT : ∀ it acc env, compTurn (.ListComp elt (⟨tg, iter, [], 0⟩ :: rest) scope pos) 0 it acc env = turnB tg iter.pos 0 (.ListComp elt (⟨tg, iter, [], 0⟩ :: rest) scope pos) (B acc env) it acc env) (hu : ∀ i ∈ us, i ∈ own.map (·.2))
    (hg : ∀ (s : Shared) (H : Hp) (C : Addr) (cl : List (Str × Addr)) (fp : List Addr), PG (X.blk s H scope (compEnvC scope cl C X.env) fp) tg g)
    (hb : ∀ (s : Shared) (H : Hp) (C : Addr) (cl : List (Str × Addr)) (fp : List Addr) (D : Addr), PB (X.blk s H scope (compEnvC scope cl C X.env) fp) us (B (.ref D) (compEnvC scope cl C X.env)) (tb D))
    (hfold : ∀ x, foldedSetIterable iter X.env x = pure x := by intro _; rfl) : PE X (.ListComp elt (⟨tg, iter, [], 0⟩ :: rest) scope pos) (tLcB wi g (own.map (·.2)) tb) := by
  refine ⟨fun pins s σ H Q I hread => ?_⟩
  rw [eval_ListComp]
  have hcells : ∀ y ∈ scope.names, y.2 = .free → ∃ c, X.env.cells.lookup y.1 = some c := fun y hy e => (bok.free y hy e).elim (fun k => I.ok.has _ (.inl k)) fun k => I.ok.has _ (.inr k)
  refine wpAny_comprehension_free rfl hfold (closure_ok hcells) bok.kind (fun y hy e => by rw [bok.uniq y hy, e]) (thn (hit.run pins s σ H _ I hread) fun _ _ hx => thn hx fun _ s2 ⟨it, fp, tn, J, H2, e, I2, T, st2, f2, q⟩ => ?_)
  subst e
  refine wpAny_newObj_type (newEnv_comp ?_) (by show 0 ≤ sizeLine; decide)
  -- the list that is filled
  obtain ⟨D, hD⟩ : ∃ D, s2.heap.objs.size = D := ⟨_, rfl⟩
  rw [hD]
  obtain ⟨W, ⟨m0, w0⟩, turn⟩ := q D (I2.hok.fresh (Nat.le_of_eq hD))
  obtain ⟨s3, hs3⟩ : ∃ s3 : Shared, ({ s2 with heap := s2.heap.push { cls := .type "list", data := .seq ([] : List Value).toArray } } : Shared) = s3 := ⟨_, rfl⟩
  obtain ⟨H3, hH3⟩ : ∃ H3 : Hp, upd H2 D (.lst []) = H3 := ⟨_, rfl⟩
  have hp3 : s3.heap = s2.heap.push { cls := .type "list", data := .seq ([] : List Value).toArray } := by rw [← hs3]
  have I3 : Inv X pins σ H3 s3 := by
    rw [← hH3, ← hs3]
    exact I2.laid (t' := s2.toks) (fun b o z => Heap.get?_push_of_some _ z) (Nat.le_of_eq hD) ⟨Nat.zero_le _, [], 0, .nil, by rw [← hD]; exact Heap.get?_push_size _ rfl⟩
  have small : ∀ b ∈ fp, b < s2.heap.objs.size := fun b hb => let ⟨_, z, _⟩ := T.obj _ _ st2 b hb; Heap.lt_size z
  have f3 : ∀ b ∈ fp, FpOk X pins H3 b ∧ b < s3.heap.objs.size := fun b hb => by
    have lt := small b hb
    refine ⟨⟨?_, (f2 b hb).2⟩, by rw [hp3, Heap.size_push]; exact Nat.lt_succ_of_lt lt⟩
    rw [← hH3, upd_ne (show b ≠ D from Nat.ne_of_lt (hD ▸ lt))]
    exact (f2 b hb).1
  have st3 : tn 0 s3.heap := T.keep _ _ _ st2 fun b _ o z => by rw [hp3]; exact Heap.get?_push_of_some _ z
  have I4 := block_start I3 bok hnd f3
  rw [hs3]
  rw [hH3] at w0
  obtain ⟨ce, hce⟩ : ∃ ce, compEnvC scope (cellsFrom (s3.heap.objs.size + 1) scope.names (cloFrom X.env.cells scope.names [])) s3.heap.objs.size X.env = ce := ⟨_, rfl⟩
  have pg := hg s3 H3 s3.heap.objs.size (cellsFrom (s3.heap.objs.size + 1) scope.names (cloFrom X.env.cells scope.names [])) fp
  have pb := hb s3 H3 s3.heap.objs.size (cellsFrom (s3.heap.objs.size + 1) scope.names (cloFrom X.env.cells scope.names [])) fp D
  have nfp : ∀ b ∈ fp, H3 b = none := fun b hb => (f3 b hb).1.1
  have cL : ce.locals = s3.heap.objs.size := by subst hce; rfl
  rw [hce] at I4 pg pb
  obtain ⟨s4, hs4⟩ : ∃ s4 : Shared, ({ s3 with heap := pushCells (s3.heap.push { cls := .type "dict", data := .dict #[] }) scope.names } : Shared) = s4 := ⟨_, rfl⟩
  rw [hs4] at I4
  have st4 : tn 0 s4.heap := T.keep _ _ _ st3 fun b _ o z => by rw [← hs4]; exact pushCells_keeps _ _ _ _ (Heap.get?_push_of_some _ z)
  have walk : ∀ {σ' : L2.St} {H' : Hp} {s' : Shared}, Inv (X.blk s3 H3 scope ce fp) [] σ' H' s' → (∀ b ∈ fp, H' b = none) → ∀ b ∈ fp, FpOk (X.blk s3 H3 scope ce fp) [] H' b := fun {σ' H' s'} I' hn b hb =>
    ⟨hn b hb, (I'.ok.exf b hb).1, I'.ok.exfs b hb, .inl hb, fun x c z => (I'.ok.exf b hb).2 x c z, fun p hp => by cases (show p ∈ ([] : List (Addr × Obj)) from hp)⟩
  have loop : codeAny (model X.prog X.w) X.A (.compLoop (.ListComp elt (⟨tg, iter, [], 0⟩ :: rest) scope pos) 0 (.ref it) (.ref D) ce) (compPost (model X.prog X.w) X.A X.xe none (fun v s' => ∃ (y : V) (H' : Hp), Inv X pins σ H' s' ∧ RelV y v ∧ Q y H') (.ref D) s3.heap.objs.size) s4 := by
    refine loopB (hT _ _ _) (fun n s' => ∃ i H', Inv (X.blk s3 H3 scope ce fp) [] (wipe σ (own.map (·.2))) H' s' ∧ tn i s'.heap ∧ (∀ b ∈ fp, H' b = none) ∧ W i n H') ?_ m0 ⟨0, H3, I4, st4, nfp, w0⟩
    rintro n s5 ⟨i, H5, I5, st5, n5, w5⟩
    rcases turn i n H5 w5 with ⟨stop, qq⟩ | ⟨go, Nx, hNx, step⟩
    · refine thnF (T.done (X.blk s3 H3 scope ce fp) rfl rfl rfl hcalm i [] s5 _ H5 (fun _ _ => False) I5 (walk I5 n5) st5 stop) fun r s6 ⟨hr, I6⟩ => ?_
      subst hr
      have I7 : Inv X pins σ H5 s6 := I3.call' (ch := fp) I6.os I6.base I6.hok I6.bare fun b hb => ⟨(f3 b hb).1.2.2.2.1, (f3 b hb).1.2.1, (f3 b hb).1.2.2.2.2.1, (f3 b hb).1.2.2.2.2.2⟩
      have nC : H5 s3.heap.objs.size = none := by have z : H5 ce.locals = none := I6.free; rw [cL] at z; exact z
      obtain ⟨m, hn, _⟩ := I6.loc
      have hn : s6.heap.Ns ce.locals m := hn
      rw [cL] at hn
      obtain ⟨f0, f1, f2', f3', f4, f5⟩ := I3.fpOk (Nat.le_refl _) nC
      refine ⟨m, hn, fun h'' sb => ?_⟩
      exact ⟨.ref D, H5, I7.turned (t' := s6.toks) (fun b o hb z => (sb.2 b hb).trans z) f0 f1 f3' f4 f5, rfl, qq⟩
    · refine thnF (T.item (X.blk s3 H3 scope ce fp) rfl rfl rfl hcalm i [] s5 _ H5 (fun _ _ => False) I5 (walk I5 n5) st5 go) fun r s6 ⟨u, hr, h6⟩ => ?_
      subst hr
      refine thnF h6 fun _ s7 ⟨x, H7, I7, r7, y7, st7, n7⟩ => ?_
      refine thnF (pg.run _ s7 _ H7 x u _ (I7.pinned (walk I7 n7) (T.obj _ _ st7)) r7 (step x H7 y7)) fun _ s8 ⟨σ8, H8, I8, hw8, q8⟩ => ?_
      refine pb _ s8 σ8 H8 Nx _ _ _ I8 q8 fun s9 H9 I9 nx => wpAny_pure ⟨rfl, ?_⟩
      obtain ⟨m', hm, w'⟩ := hNx H9 nx
      have held : ∀ b ∈ fp, ∀ o, s7.heap.get? b = some o → s9.heap.get? b = some o ∧ H9 b = none := fun b hb o z =>
        let y := I9.pin (b, o) (List.mem_append_right _ (List.mem_append_right _ (mem_pinsAt hb z)))
        ⟨y.1, y.2.1⟩
      refine ⟨m', hm, i + 1, H9, (I9.unpinned (pins := [])).weak (by rw [← hw8, wipe_length, wipe_length]) (fun j v z => by rw [← hw8] at z; exact wipe_sub hu z), T.keep _ _ _ st7 fun b hb o z => (held b hb o z).1, fun b hb => ?_, w'⟩
      obtain ⟨o, z, _⟩ := T.obj _ _ st7 b hb
      exact (held b hb o z).2
  have start := codeAny_compStart_list loop (T.self X.A 0 _ _ _ st4 loop)
  rw [← hce, ← hs4] at start
  exact start
end
end Y
namespace Y
open PySem PySem.Spec PyProof.Rows L2
abbrev BM : Type := SL → Bx → R (List D)
def appM (em : EM) : BM := fun S w => (em S w).nx.bind fun y w1 => .ok [y] w1
def lvlLoop (gm : GM) (mb : BM) (S0 : SL) : List D → Bx → R (List D)
  | [], w => .ok [] w
  | d :: ds, w => match gm d S0 with
    | none => .bad
    | some S1 => (mb S1 w).nx.bind fun ys w1 => (lvlLoop gm mb S0 ds w1).bind fun zs w2 => .ok (ys ++ zs) w2
def lvlM (fi : AM) (gm : GM) (vs : List Nat) (mb : BM) : BM := fun S w => (fi S w).nx.bind fun es w1 => if es.length ≤ 16 then lvlLoop gm mb (wipeS (datS S) vs) es w1 else .bad
def oLcB (fi : AM) (gm : GM) (vs : List Nat) (mb : BM) : AM := fun S w => (fi S w).bind fun ds w1 => if ds.length ≤ 16 then (lvlLoop gm mb (wipeS (datS S) vs) ds w1).nx else .bad
structure DB (g : G) (n : Nat) (tb : Addr → TB) (mb : BM) : Prop where
  len : ∀ (S : SL) (w w1 : Bx) (zs : List D), mb S w = .ok zs w1 → zs.length ≤ n
  run : ∀ (D : Addr) (σ : L2.St) (H : Hp) (Nx : Hp → Prop) (F : FH) (S : SL) (w : Bx) (FB : FH) (HB : Hp) (acc : List V) (ys : List Y.D), Rel g F w S σ H → HB D = none → D ≠ g.bx → Ext g FB HB F H w → F.free D → H D = some (.lst acc) → DRs g F acc ys → ys.length + n ≤ 16777215 →
    PostG g F H E0 (fun zs w' => ∀ (H' : Hp) (F' : FH) (acc' : List V), Ext g FB HB F' H' w' → FSame F F' → F'.free D → H' D = some (.lst acc') → DRs g F' acc' (ys ++ zs) → Nx H') (mb S w).nx → tb D σ H Nx
section
variable {X : Cx} {g : G} {E : EK}
theorem db_app (em : EM) : DB g 1 (tApp (tSem g (kE E0) em)) (appM em) := by
  refine ⟨fun S w w1 zs h => ?_, fun D σ H Nx F S w FB HB acc ys R nD nb x nF hD rys hl hp => ?_⟩
  · unfold appM at h
    cases e : em S w with
    | ok y w2 => rw [e] at h; cases h; exact Nat.le_refl _
    | _ => rw [e] at h; cases h
  · refine ⟨F, S, w, R, ?_⟩
    unfold appM at hp
    cases e : em S w with
    | ok y w1 =>
      rw [e] at hp
      intro v H1 F1 x1 ry
      have hD1 : H1 D = some (.lst acc) := x1.hh D _ nb nF.2 (fun _ z => by cases z) hD
      have nF1 := x1.free nF hD
      refine ⟨acc, hD1, ?_, ?_⟩
      · show acc.length < 16777216
        have := rys.length
        omega
      · exact hp _ F1 (acc ++ [v]) (Ext.mut (x.trans x1) nD nF1 nb hD1 (.inl ⟨_, rfl⟩)) x1.ff nF1 upd_same ((rys.mono x1.ff).append (.cons ry .nil))
    | _ => rw [e] at hp; exact hp.elim
theorem lvl_len {gm : GM} {mb : BM} {n : Nat} {S0 : SL} (hb : ∀ (S : SL) (w w1 : Bx) (zs : List D), mb S w = .ok zs w1 → zs.length ≤ n) : ∀ (ds : List D) (w w1 : Bx) (zs : List D), lvlLoop gm mb S0 ds w = .ok zs w1 → zs.length ≤ ds.length * n
  | [], w, w1, zs, h => by cases h; exact Nat.zero_le _
  | d :: ds, w, w1, zs, h => by
    unfold lvlLoop at h
    cases hg : gm d S0 with
    | none => rw [hg] at h; cases h
    | some S1 =>
      rw [hg] at h
      simp only at h
      cases e : mb S1 w with
      | ok ys w2 =>
        rw [e] at h
        have h : ((lvlLoop gm mb S0 ds w2).bind fun zs w2 => R.ok (ys ++ zs) w2) = .ok zs w1 := h
        cases e2 : lvlLoop gm mb S0 ds w2 with
        | ok us w3 =>
          rw [e2] at h; cases h
          have h1 := hb _ _ _ _ e
          have h2 := lvl_len hb ds _ _ _ e2
          rw [List.length_append, List.length_cons, Nat.succ_mul]; omega
        | _ => rw [e2] at h; cases h
      | _ => rw [e] at h; cases h
/-- the turns of a level, from a list that is being filled -/
theorem lvl_turns {gm : GM} {mb : BM} {ns vs : List Nat} {n : Nat} {tb : Addr → TB} (hn : ∀ i ∈ ns, i ∈ vs) (hb : DB g n tb mb) {J : It} {ds : List D} {D : Addr} {σ : L2.St} {S0 : SL} {F1 : FH} {H1 : Hp} {w1 : Bx} {FB : FH} {HB : Hp} {ys0 : List Y.D} {Nx : Hp → Prop} {E1 : XK}
    (R1 : Rel g F1 w1 S0 (wipe σ vs) H1) (hS : datS S0 = S0) (yl : Yld g F1 J ds) (hl : ds.length ≤ 16) (nD : HB D = none) (nb : D ≠ g.bx) (hlim : ys0.length + 16 * n ≤ 16777215) :
    ∀ (i m : Nat) (H : Hp), (∃ F2 w2 acc ys, Ext g FB HB F2 H w2 ∧ FSame F1 F2 ∧ F2.free D ∧ H D = some (.lst acc) ∧ DRs g F2 acc (ys0 ++ ys) ∧ ys.length ≤ i * n ∧ i + m = ds.length ∧ PostG g F2 H E1 (fun zs w' => ∀ H' F' acc', Ext g FB HB F' H' w' → FSame F1 F' → F'.free D → H' D = some (.lst acc') → DRs g F' acc' (ys0 ++ ys ++ zs) → Nx H') (lvlLoop gm mb S0 (ds.drop i) w2).nx) →
      (J.stop i H ∧ Nx H) ∨ (J.go i H ∧ ∃ N1 : Hp → Prop, (∀ H', N1 H' → ∃ m', m' < m ∧ ∃ F2 w2 acc ys, Ext g FB HB F2 H' w2 ∧ FSame F1 F2 ∧ F2.free D ∧ H' D = some (.lst acc) ∧ DRs g F2 acc (ys0 ++ ys) ∧ ys.length ≤ (i + 1) * n ∧ (i + 1) + m' = ds.length ∧ PostG g F2 H' E1 (fun zs w' => ∀ H'' F' acc', Ext g FB HB F' H'' w' → FSame F1 F' → F'.free D → H'' D = some (.lst acc') → DRs g F' acc' (ys0 ++ ys ++ zs) → Nx H'') (lvlLoop gm mb S0 (ds.drop (i + 1)) w2).nx) ∧
        ∀ x H', J.yld i H x H' → tSemG g ns gm x (wipe σ vs) H' fun σ1 H2 => wipe σ1 vs = wipe σ vs ∧ tb D σ1 H2 N1) := by
  intro i m H ⟨F2, w2, acc, ys, x2, f2, nF2, hD, rys, hy, him, hp⟩
  cases hd : ds[i]? with
  | none =>
    have hle : ds.length ≤ i := List.getElem?_eq_none_iff.mp hd
    have hie : i = ds.length := by omega
    refine .inl ⟨hie ▸ yl.stop F2 H f2 x2.sub, ?_⟩
    rw [List.drop_eq_nil_of_le hle] at hp
    exact hp H F2 acc x2 f2 nF2 hD (by rw [List.append_nil]; exact rys)
  | some d =>
    obtain ⟨hlt, hde⟩ := List.getElem?_eq_some_iff.mp hd
    obtain ⟨hgo, _⟩ := yl.go i d F2 H f2 x2.sub hd
    rw [List.drop_eq_getElem_cons hlt, hde] at hp
    refine .inr ⟨hgo, fun H3 => ∃ F2 w2 acc ys, Ext g FB HB F2 H3 w2 ∧ FSame F1 F2 ∧ F2.free D ∧ H3 D = some (.lst acc) ∧ DRs g F2 acc (ys0 ++ ys) ∧ ys.length ≤ (i + 1) * n ∧ PostG g F2 H3 E1 (fun zs w' => ∀ H'' F' acc', Ext g FB HB F' H'' w' → FSame F1 F' → F'.free D → H'' D = some (.lst acc') → DRs g F' acc' (ys0 ++ ys ++ zs) → Nx H'') (lvlLoop gm mb S0 (ds.drop (i + 1)) w2).nx, fun H' hN => ?_, fun x H3 hx => ?_⟩
    · obtain ⟨F', w', acc', ys', b1, b2, b3, b4, b5, b6, b7⟩ := hN
      exact ⟨m - 1, by omega, F', w', acc', ys', b1, b2, b3, b4, b5, b6, by omega, b7⟩
    · obtain ⟨F3, x3, rx⟩ := yld_item yl f2 x2.sub x2.bx hd hx
      have x23 := x2.trans x3
      have nF3 := x3.free nF2 hD
      have hD3 : H3 D = some (.lst acc) := x3.hh D _ nb nF2.2 (fun _ z => by cases z) hD
      have R3 : Rel g F3 w2 S0 (wipe σ vs) H3 := by rw [← hS]; exact R1.dats (f2.trans x3.ff) x3.sub x3.bx
      unfold lvlLoop at hp
      cases hg : gm d S0 with
      | none => rw [hg] at hp; exact hp.elim
      | some S1 =>
        rw [hg] at hp
        simp only at hp
        refine ⟨F3, S0, w2, d, S1, R3, rx, hg, fun σ1 R4 wp => ⟨wipe_eq hn wp, ?_⟩⟩
        refine hb.run D σ1 H3 _ F3 S1 w2 FB HB acc (ys0 ++ ys) R4 nD nb x23 nF3 hD3 (rys.mono x3.ff) (by
          rw [List.length_append]
          have : (i + 1) * n ≤ 16 * n := Nat.mul_le_mul_right _ (by omega)
          rw [Nat.succ_mul] at this
          omega) ?_
        cases e : mb S1 w2 with
        | ok us w3 =>
          rw [e] at hp
          intro H4 F4 acc4 x4 f4 nF4 hD4 r4
          refine ⟨F4, w3, acc4, ys ++ us, x4, f2.trans (x3.ff.trans f4), nF4, hD4, by rw [← List.append_assoc]; exact r4, ?_, ?_⟩
          · have := hb.len _ _ _ _ e
            rw [List.length_append, Nat.succ_mul]; omega
          · have hp : PostG g F2 H E1 (fun zs w' => ∀ H' F' acc', Ext g FB HB F' H' w' → FSame F1 F' → F'.free D → H' D = some (.lst acc') → DRs g F' acc' (ys0 ++ ys ++ zs) → Nx H') ((lvlLoop gm mb S0 (ds.drop (i + 1)) w3).bind fun zs w2 => R.ok (us ++ zs) w2).nx := hp
            cases e2 : lvlLoop gm mb S0 (ds.drop (i + 1)) w3 with
            | ok zs w5 =>
              rw [e2] at hp
              intro H' F' acc' k1 k2 k3 k4 k5
              exact hp H' F' acc' k1 k2 k3 k4 (by simp only [List.append_assoc] at k5 ⊢; exact k5)
            | _ => rw [e2] at hp; exact hp.elim
        | _ => rw [e] at hp; exact hp.elim
theorem dat_dat (S : SL) : datS (datS S) = datS S := by
  unfold datS
  rw [List.map_map]
  refine List.map_congr_left fun o _ => ?_
  cases o with
  | none => rfl
  | some s => cases s <;> rfl
theorem dat_wipe (S : SL) : ∀ vs : List Nat, datS (wipeS S vs) = wipeS (datS S) vs
  | [] => rfl
  | v :: vs => by
    unfold wipeS
    rw [← dat_wipe S vs]
    unfold datS
    rw [List.map_set]
theorem db_lvl {fi : AM} {gm : GM} {mb : BM} {ns vs : List Nat} {n : Nat} {tb : Addr → TB} (hn : ∀ i ∈ ns, i ∈ vs) (hb : DB g n tb mb) : DB g (16 * n) (tLvl (tSemI g (kE E0) fi) (tSemG g ns gm) vs tb) (lvlM fi gm vs mb) := by
  refine ⟨fun S w w1 zs h => ?_, fun D σ H Nx F S w FB HB acc ys R nD nb x nF hD rys hl hp => ?_⟩
  · unfold lvlM at h
    cases e : fi S w with
    | ok es w2 =>
      rw [e] at h
      have h : (if es.length ≤ 16 then lvlLoop gm mb (wipeS (datS S) vs) es w2 else .bad) = .ok zs w1 := h
      by_cases he : es.length ≤ 16
      · rw [if_pos he] at h
        exact Nat.le_trans (lvl_len hb.len _ _ _ _ h) (Nat.mul_le_mul_right _ he)
      · rw [if_neg he] at h; cases h
    | _ => rw [e] at h; cases h
  · refine ⟨F, S, w, R, ?_⟩
    unfold lvlM at hp
    cases e : fi S w with
    | ok es w1 =>
      rw [e] at hp
      have hp : PostG g F H E0 (fun zs w' => ∀ (H' : Hp) (F' : FH) (acc' : List V), Ext g FB HB F' H' w' → FSame F F' → F'.free D → H' D = some (.lst acc') → DRs g F' acc' (ys ++ zs) → Nx H') (if es.length ≤ 16 then lvlLoop gm mb (wipeS (datS S) vs) es w1 else .bad).nx := hp
      by_cases he : es.length ≤ 16
      · rw [if_pos he] at hp
        intro J H1 F1 x1 yl
        have nF1 := x1.free nF hD
        have hD1 : H1 D = some (.lst acc) := x1.hh D _ nb nF.2 (fun _ z => by cases z) hD
        have R1 : Rel g F1 w1 (wipeS (datS S) vs) (wipe σ vs) H1 := (R.dats x1.ff x1.sub x1.bx).wipe vs
        refine ⟨_, ⟨es.length, F1, w1, acc, [], x.trans x1, FSame.refl F1, nF1, hD1, by rw [List.append_nil]; exact rys.mono x1.ff, Nat.zero_le _, by omega, ?_⟩, lvl_turns (E1 := E0) hn hb R1 (by rw [dat_wipe, dat_dat]) yl he nD nb (by omega)⟩
        cases e2 : lvlLoop gm mb (wipeS (datS S) vs) es w1 with
        | ok zs w3 =>
          rw [e2] at hp
          show PostG g F1 H1 E0 _ (lvlLoop gm mb (wipeS (datS S) vs) (es.drop 0) w1).nx
          rw [List.drop_zero, e2]
          intro H' F' acc' k1 k2 k3 k4 k5
          exact hp H' F' acc' k1 (x1.ff.trans k2) k3 k4 (by rw [List.append_nil] at k5; exact k5)
        | _ => rw [e2] at hp; exact hp.elim
      · rw [if_neg he] at hp; exact hp.elim
    | _ => rw [e] at hp; exact hp.elim
theorem lcB_run {wi : TI} {fi : AM} {gm : GM} {mb : BM} {ns vs : List Nat} {n : Nat} {tb : Addr → TB} (hn : ∀ i ∈ ns, i ∈ vs) (hb : DB g n tb mb) (hn16 : 16 * n ≤ 16777215)
    (ri : ∀ σ H (Rq : It → Hp → Prop) F S w, Rel g F w S σ H → PostG g F H (E σ) (fun ds w' => ∀ J H' F', Ext g F H F' H' w' → Yld g F' J ds → Rq J H') (fi S w) → wi σ H Rq) :
    ∀ σ H Q F S w, Rel g F w S σ H → PostO g F H Q (E σ) (oLcB fi gm vs mb S w) → tLcB wi (tSemG g ns gm) vs tb σ H Q := by
  intro σ H Q F S w R h
  refine ri σ H _ F S w R (PostG.imp (PostG.bind h) fun ds w1 _ h1 J H1 F1 x1 yl D nD => ?_)
  by_cases hl : ds.length ≤ 16
  · rw [if_pos hl] at h1
    have nb : D ≠ g.bx := not_box x1.bx nD
    have x2 : Ext g F1 H1 F1 (upd H1 D (.lst [])) w1 := Ext.own x1.sub x1.bx nD
    have nF := free_of x1.sub x1.bx nD
    have R1 : Rel g F1 w1 (wipeS (datS S) vs) (wipe σ vs) (upd H1 D (.lst [])) := (R.dats (x1.trans x2).ff x2.sub x2.bx).wipe vs
    refine ⟨_, ⟨ds.length, F1, w1, [], [], x1.trans x2, FSame.refl F1, nF, upd_same, .nil, Nat.zero_le _, by omega, ?_⟩, lvl_turns (gm := gm) (Nx := fun H => Q (.ref D) H) (E1 := E0) (FB := F) (HB := H) (ys0 := []) hn hb R1 (by rw [dat_wipe, dat_dat]) yl hl (x1.fresh nD) nb (by simp only [List.length_nil]; omega)⟩
    cases e2 : lvlLoop gm mb (wipeS (datS S) vs) ds w1 with
    | ok zs w3 =>
      rw [e2] at h1
      rw [List.drop_zero, e2]
      intro H' F' acc' k1 k2 k3 k4 k5
      exact h1 D acc' H' F' k1 (x1.fresh nD) k3 k4 k5
    | _ => rw [e2] at h1; exact h1.elim
  · rw [if_neg hl] at h1; exact h1.elim
/-- [.. for a in x for b in y for c in z], three short walks, no tests -/
theorem do_lc3 {elt tg iter tg1 iter1 tg2 iter2 : Expr} {scope : Scope} {pos : Pos} {fi fi1 fi2 : AM} {gm gm1 gm2 : GM} {em : EM} {ns ns1 ns2 : List Nat} (own : List (Str × Nat)) (vs1 vs2 : List Nat) (hc : X.calm = true) (hN : X.N.Nodup) (hi : DI X g E tg iter fi) (ok : BlkOk X.N X.env.scope scope own)
    (hg : ∀ (s : Shared) (H : Hp) (C : Addr) (cl : List (Str × Addr)) (fp : List Addr), DG (X.blk s H scope (compEnvC scope cl C X.env) fp) g tg ns gm)
    (hi1 : ∀ (s : Shared) (H : Hp) (C : Addr) (cl : List (Str × Addr)) (fp : List Addr), DI (X.blk s H scope (compEnvC scope cl C X.env) fp) g (kE E0) tg1 iter1 fi1)
    (hg1 : ∀ (s : Shared) (H : Hp) (C : Addr) (cl : List (Str × Addr)) (fp : List Addr), DG (X.blk s H scope (compEnvC scope cl C X.env) fp) g tg1 ns1 gm1)
    (hi2 : ∀ (s : Shared) (H : Hp) (C : Addr) (cl : List (Str × Addr)) (fp : List Addr), DI (X.blk s H scope (compEnvC scope cl C X.env) fp) g (kE E0) tg2 iter2 fi2)
    (hg2 : ∀ (s : Shared) (H : Hp) (C : Addr) (cl : List (Str × Addr)) (fp : List Addr), DG (X.blk s H scope (compEnvC scope cl C X.env) fp) g tg2 ns2 gm2)
    (he : ∀ (s : Shared) (H : Hp) (C : Addr) (cl : List (Str × Addr)) (fp : List Addr), DE (X.blk s H scope (compEnvC scope cl C X.env) fp) g (kE E0) elt em)
    (hn : ∀ i ∈ ns, i ∈ own.map (·.2) := by decide) (hn1 : ∀ i ∈ ns1, i ∈ vs1 := by decide) (hn2 : ∀ i ∈ ns2, i ∈ vs2 := by decide) (h21 : ∀ i ∈ vs2, i ∈ vs1 := by decide) (h10 : ∀ i ∈ vs1, i ∈ own.map (·.2) := by decide)
    (hs : ∀ x, foldedSetIterable iter X.env x = pure x := by intro _; rfl) (hs1 : ∀ env x, foldedSetIterable iter1 env x = pure x := by intro _ _; rfl) (hs2 : ∀ env x, foldedSetIterable iter2 env x = pure x := by intro _ _; rfl) :
    DO X g E (.ListComp elt [⟨tg, iter, [], 0⟩, ⟨tg1, iter1, [], 0⟩, ⟨tg2, iter2, [], 0⟩] scope pos) (oLcB fi gm (own.map (·.2)) (lvlM fi1 gm1 vs1 (lvlM fi2 gm2 vs2 (appM em)))) := by
  obtain ⟨wi, p, ri⟩ := hi.run
  refine ⟨_, pe_lcB (us := vs1) (B := fun acc env => lvlB (.ListComp elt [⟨tg, iter, [], 0⟩, ⟨tg1, iter1, [], 0⟩, ⟨tg2, iter2, [], 0⟩] scope pos) iter1 1 acc env) hc hN p ok (fun it acc env => rfl) h10 (fun s H C cl fp => (hg s H C cl fp).pg) (fun s H C cl fp D => ?_) hs, lcB_run hn (db_lvl hn1 (db_lvl hn2 (db_app em))) (by decide) ri⟩
  refine pb_lvl (us := vs2) (B := lvlB (.ListComp elt [⟨tg, iter, [], 0⟩, ⟨tg1, iter1, [], 0⟩, ⟨tg2, iter2, [], 0⟩] scope pos) iter2 2 (.ref D) (compEnvC scope cl C X.env)) (hi1 s H C cl fp).pi (hg1 s H C cl fp).pg ?_ h21 (fun it => rfl) rfl rfl hc rfl (hs1 _)
  refine pb_lvl (us := []) (B := appB elt (.ref D) (compEnvC scope cl C X.env)) (hi2 s H C cl fp).pi (hg2 s H C cl fp).pg ?_ (fun _ h => nomatch h) (fun it => rfl) rfl rfl hc rfl (hs2 _)
  exact pb_app (he s H C cl fp).pe rfl
end
end Y
namespace Y
open PySem PySem.Spec PyProof.Rows L2
def spMO (K : PySem.W.Frag) (cls : CT) (n : Nat) (m : List D → Bx → R (List D)) : Sp := fun vs H Q E => vs.length = n ∧ ∃ (bx : BQ) (F : FH) (ds : List D) (w : Bx),
  Same F H ∧ BxOk ⟨K, cls, bx⟩ F w H ∧ DRs ⟨K, cls, bx⟩ F vs ds ∧ PostO ⟨K, cls, bx⟩ F H Q E (m ds w)
def frzM (m : List D → Bx → R (List D)) : List D → Bx → R D := fun ds w => (m ds w).bind fun es w1 => .ok (.lst es) w1
theorem spM_frz {K : PySem.W.Frag} {cls : CT} {n : Nat} {m : List D → Bx → R (List D)} {vs : List V} {H : Hp} {Q : VK} {E : XK} (h : spM K cls n (frzM m) vs H Q E) : spMO K cls n m vs H Q E := by
  obtain ⟨hl, bx, F, ds, w, s, b, r, hp⟩ := h
  refine ⟨hl, bx, F, ds, w, s, b, r, ?_⟩
  unfold frzM at hp
  refine PostG.imp (PostG.bind hp) fun es w1 _ h1 p vs H' F' x np nF hp' rd => ?_
  have nb : p ≠ (⟨K, cls, bx⟩ : G).bx := not_box b np
  exact h1 (.ref p) H' _ (Ext.freeze x np nF hp' nb) (.lst upd_same (rd.mono (FSame.upd nF.1)))
structure CalO (P : Program) (w : World) (K : PySem.W.Frag) (mg : Str → Option Value) (base : Heap) (cls : CT) (x : Str) (k n : Nat) (m : List D → Bx → R (List D)) : Prop where
  ex : ∃ (f : Addr) (fd : FuncData) (ps : List Str), FnOk P w K mg base (L2N.CX P w) k f fd ps (spMO K cls n m) ∧ mg x = some (.ref f) ∧ PySem.W.keepIn K (.ref f) = true ∧ Binds K fd ps []
section
variable {P : Program} {w : World} {K : PySem.W.Frag} {mg : Str → Option Value} {base : Heap} {cls : CT} {x c : Str} {k n : Nat} {m : List D → Bx → R (List D)}
theorem fnok_frz {f : Addr} {fd : FuncData} {ps : List Str} (h : FnOk P w K mg base (L2N.CX P w) k f fd ps (spMO K cls n m)) : FnOk P w K mg base (L2N.CX P w) k f fd ps (spM K cls n (frzM m)) := h.imp fun _ _ _ _ q => spM_frz q
theorem CalO.cal (C : CalO P w K mg base cls x k n m) : Cal P w K mg base cls x k n (frzM m) := let ⟨f, fd, ps, h1, h2⟩ := C.ex; ⟨f, fd, ps, fnok_frz h1, h2⟩
end
section
variable {X : Cx} {g : G} {E : EK} {e e2 a b c o : Expr} {es : List Expr} {pos p p2 apos : Pos} {fa fb f fo : EM} {fs ao : AM} {x cn mn : Str} {k n : Nat} {m : List D → Bx → R (List D)}
end
inductive RO where
  | ok (ds : List D) (w : Bx) | err (S : SL) (c : Str) (fs : List (Str × D)) (w : Bx) | bad
abbrev SMO := SL → Bx → RO
def PostSO (g : G) (F0 : FH) (H0 : Hp) (B : FH) (E : EK) (N : Ends) : RO → Prop
  | .ok ds w => ∀ (p : Addr) (vs : List V) (H' : Hp) (F' : FH), Ext g F0 H0 F' H' w → H0 p = none → F'.free p → H' p = some (.lst vs) → DRs g F' vs ds → N.rt (.ref p) H'
  | .err S c fs w => ∀ (σ' : L2.St) (H' : Hp) (F' : FH), RelS g F0 H0 B F' w S σ' H' → ∀ (cl a : Addr) (vs : List (Str × V)), H0 a = none → g.cls c = some cl → H' a = some (.xd vs) → DRf g F' vs fs → E σ' (.ref cl) (some a) H'
  | .bad => False
structure DSsO (X : Cx) (g : G) (E : EK) (F0 : FH) (H0 : Hp) (st : List Stmt) (m : SMO) : Prop where
  run : ∃ t, PSs X st t ∧ ∀ (N : Ends) (σ : L2.St) (H : Hp) (F : FH) (S : SL) (w : Bx) (B : FH), RelS g F0 H0 B F w S σ H → PostSO g F0 H0 B E N (m S w) → t N σ H
def oSeq (m : SM) (k : SMO) : SMO := fun S w => match m S w with
  | .nx S1 w1 => k S1 w1
  | .err S1 c fs w1 => .err S1 c fs w1
  | _ => .bad
def R.toO {α : Type} : R α → SL → (α → Bx → RO) → RO
  | .ok a w, _, k => k a w
  | .err c fs w, S, _ => .err S c fs w
  | .bad, _, _ => .bad
def oRet (f : AM) : SMO := fun S w => (f S w).toO S fun ds w1 => .ok ds w1
def oRetV (i : Nat) : SMO := fun S w => match ownAt S i with
  | some ds => .ok ds w
  | none => .bad
section
variable {X : Cx} {g : G} {E : EK} {F0 : FH} {H0 : Hp} {B : FH} {e a b c : Expr} {es : List Expr} {pos p p2 px apos : Pos} {fa fb f : EM} {fs ao : AM} {st : Stmt} {sts : List Stmt} {m : SM} {k : SMO} {N : Ends} {x : Str}
theorem dsso_cons (h1 : DS X g E F0 H0 st m) (h2 : DSsO X g E F0 H0 sts k) : DSsO X g E F0 H0 (st :: sts) (oSeq m k) := by
  obtain ⟨t, p, r⟩ := h1.run
  obtain ⟨t2, p2, r2⟩ := h2.run
  refine ⟨_, pss_cons p p2, fun N σ H F S w B R h => ?_⟩
  refine r { N with nx := t2 N } σ H F S w B R ?_
  unfold oSeq at h
  cases hm : m S w with
  | nx S1 w1 => rw [hm] at h; exact fun σ' H' F' R' => r2 N σ' H' F' S1 w1 B R' h
  | err S1 c fs w1 => rw [hm] at h; exact h
  | _ => rw [hm] at h; exact h.elim
theorem PostSO.to {α : Type} {F : FH} {H : Hp} {w : Bx} {S : SL} {σ : L2.St} {r : R α} {k : α → Bx → RO} (R0 : RelS g F0 H0 B F w S σ H) (h : PostSO g F0 H0 B E N (r.toO S k)) : PostG g F H (E σ) (fun a w' => PostSO g F0 H0 B E N (k a w')) r := by
  cases r with
  | ok a w => exact h
  | err c fs w => exact fun cl x vs H' F' e n k l q => h σ H' F' (RelS.ext' R0 e) cl x vs (R0.ext.fresh n) k l q
  | bad => exact h
theorem dsso_ret (ha : DO X g E a fs) : DSsO X g E F0 H0 [.Return (some a) pos] (oRet fs) := by
  obtain ⟨t, p, r⟩ := ha.run
  refine ⟨_, pss_one (ps_ret p), fun N σ H F S w B R h => ?_⟩
  exact r σ H _ F S w R.rel (PostG.imp (PostSO.to R h) fun ds w1 _ h1 p vs H1 F1 x1 np nF hp rd => h1 p vs H1 F1 (R.ext.trans x1) (R.ext.fresh np) nF hp rd)
theorem dsso_retV (i : Nat) (hN : X.N[i]? = some x := by rfl) (hv : Vis X.env.scope x := by first | exact Or.inl rfl | exact Or.inr (Or.inl rfl) | exact Or.inr (Or.inr rfl)) (hd : (x == ("__debug__" : Str)) = false := by decide)
    (hcd : (x == ("__classdict__" : Str)) = false := by decide) : DSsO X g E F0 H0 [.Return (some (.Name x px)) pos] (oRetV i) := by
  refine ⟨_, pss_one (ps_ret (pe_var hN hv hd hcd)), fun N σ H F S w B R h => ?_⟩
  unfold oRetV at h
  cases ho : ownAt S i with
  | none => rw [ho] at h; exact h.elim
  | some ds =>
    rw [ho] at h
    have hi := ownAt_some ho
    obtain ⟨v, e1, q, vs, e2, nF, nb, hp, rd⟩ := R.rel.sl i _ hi
    subst e2
    exact ⟨_, e1, h q vs H F R.ext (R.fr i ds q hi e1) nF hp rd⟩
end
def runFO (k n : Nat) (body : SMO) : List D → Bx → R (List D) := fun ds w => if ds.length = k then (match body (startS n ds) w with
  | .ok es w1 => .ok es w1
  | .err _ c fs w1 => .err c fs w1
  | .bad => .bad) else .bad
section
variable {P : Program} {w : World} {K : PySem.W.Frag} {mg : Str → Option Value} {base : Heap} {cls : CT}
theorem fnok_ofO {x qual : Str} {st : Stmt} {f : Addr} {fd : FuncData} {N ps : List Str} {k : Nat} {body : SMO} (F : Fun K x qual st f fd) (S : FnScope N ps (defScope st))
    (hbody : ∀ (cdv : Value), CodeIs K f cdv → ∀ (A : Around) (outer : List Env) (s : Shared) (H : Hp) (E : XK) (bx : BQ) (F0 : FH), Room k (A.deeper (envOfC qual (defScope st) s.heap.objs.size f cdv)) →
      DSsO (cxOf (L2N.CX P w) P w K mg base N qual (defScope st) f cdv A outer s H E) ⟨K, cls, bx⟩ (kE E) F0 H (defBody st) body) : FnOk P w K mg base (L2N.CX P w) (k + 1) f fd ps (spMO K cls ps.length (runFO ps.length N.length body)) := by
  refine okC F S (fun vs H Q E h => h.1) (fun cdv hcv A outer s H vs Q E hr h => ?_)
  obtain ⟨hl, bx, F0, ds, w0, s1, b1, rd, hp⟩ := h
  obtain ⟨t, pt, rt⟩ := (hbody cdv hcv A outer s H E bx F0 hr).run
  refine ⟨t, pt, rt _ (start N vs) H F0 (startS N.length ds) w0 F0 (rel_start s1 b1 rd) ?_⟩
  unfold runFO at hp
  rw [if_pos (by rw [← rd.length]; exact hl)] at hp
  cases hbd : body (startS N.length ds) w0 with
  | ok es w1 => simp only [hbd] at hp; exact hp
  | err S1 c fs w1 => simp only [hbd] at hp; exact fun σ' H' F' R' cl a vs n k l r => hp cl a vs H' F' R'.ext n k l r
  | bad => simp only [hbd] at hp; exact hp
theorem calO_of {x : Str} {st : Stmt} {f : Addr} {fd : FuncData} {N ps : List Str} {k : Nat} {body : SMO} (F : Fun K x x st f fd) (S : FnScope N ps (defScope st)) (hmg : mg x = some (.ref f)) (hb : Binds K fd ps [])
    (hbody : ∀ (cdv : Value), CodeIs K f cdv → ∀ (A : Around) (outer : List Env) (s : Shared) (H : Hp) (E : XK) (bx : BQ) (F0 : FH), Room k (A.deeper (envOfC x (defScope st) s.heap.objs.size f cdv)) →
      DSsO (cxOf (L2N.CX P w) P w K mg base N x (defScope st) f cdv A outer s H E) ⟨K, cls, bx⟩ (kE E) F0 H (defBody st) body) : CalO P w K mg base cls x (k + 1) ps.length (runFO ps.length N.length body) :=
  ⟨f, fd, ps, fnok_ofO F S hbody, hmg, F.kp, hb⟩
end
end Y
namespace Y
open PySem PySem.Spec PyProof.Rows L2
section
variable {X : Cx} {g : G} {E : EK} {e a b c : Expr} {es : List Expr} {pos p apos : Pos} {fa fb f : EM}
def mSplitS : D → D → Option D
  | .str a, .str b => if (b.length == 0) = false ∧ a.length + 2 ≤ sizeN then some (.lst ((Txt.split a b).map D.str)) else none
  | _, _ => none
theorem md_splitS : MtD g (fun x xs H Q => ∃ a b, x = .str a ∧ xs = [.str b] ∧ (b.length == 0) = false ∧ a.length + 2 ≤ sizeLine ∧ rNewStrs (Txt.split a b) H Q) mSplitS := by
  intro F H w x y d e z Q s b rx ry hz q
  unfold mSplitS at hz
  split at hz
  · split at hz
    · rename_i hl
      cases hz; cases rx; cases ry
      exact ⟨_, _, rfl, rfl, hl.1, hl.2, fun p np => q _ _ _ (Ext.lay s b np) (.lst upd_same (drs_strs _))⟩
    · cases hz
  · cases hz
theorem de_split (ha : DE X g E a fa) (hb : DE X g E b fb) (hs : starEach [b] X.env = [(false, eval b X.env)] := by rfl) (hbase : attributeBase a "split" X.env (eval a X.env) = eval a X.env := by rfl) (hline : (apos.endLine == pos.line) = true := by rfl) :
    DE X g E (.Call (.Attribute a "split" apos) [b] [] pos) (eM1 mSplitS fa fb) := de_m1 F.slot_str_split F.type_str_split mt_split md_splitS ha hb hs hbase hline
end
end Y
namespace Y
open PySem PySem.Spec PyProof.Rows L2
section
variable {α β : Type} {s : List Cell} {f fa fb fc : EM} {fs fi : AM} {t ta tb : TM} {m k body : SM} {mm : List D → Bx → R D} {gm : GM} {tm : TM} {em : EM} {i j l n : Nat} {c : Str}
end
section
variable {S S1 S2 : SL} {w w1 w2 w3 : Bx} {f fa fb fo : EM} {fs ao : AM} {d e z : D} {ds es : List D} {i n : Nat} {c m : Str} {b : Bool} {t : TM} {mO : List D → Bx → R (List D)}
theorem frz_ok (h : mO ds w = .ok es w1) : frzM mO ds w = .ok (.lst es) w1 := by unfold frzM; rw [h]; rfl
theorem x_runFO {k N : Nat} {body : SMO} (hl : ds.length = k) (h : body (startS N ds) w = .ok es w1) : runFO k N body ds w = .ok es w1 := by
  unfold runFO; rw [if_pos hl, h]
theorem x_oRet (h : fs S w = .ok ds w1) : oRet fs S w = .ok ds w1 := by unfold oRet; rw [h]; rfl
end
end Y
namespace Y
open PySem PySem.Spec PyProof.Rows L2
theorem len_glue {g : Str} : ∀ (ys : List Str) (a : Array Nat), (ys.foldl (fun acc p => acc ++ g.cps ++ p.cps) a).size = a.size + (ys.map (·.length)).sum + ys.length * g.length
  | [], a => by simp
  | y :: ys, a => by
    rw [List.foldl_cons, len_glue ys]
    have h1 : g.cps.size = g.length := rfl
    have h2 : y.cps.size = y.length := rfl
    simp only [Array.size_append, h1, h2, List.map_cons, List.sum_cons, List.length_cons, Nat.succ_mul]
    omega
theorem len_join {g : Str} {ys : List Str} : (Txt.join g ys).length ≤ (ys.map (·.length)).sum + ys.length * g.length := by
  show (Builtin.Str.glued g ys).length ≤ _
  unfold Builtin.Str.glued
  cases ys with
  | nil => exact Nat.zero_le _
  | cons y ys =>
    show (ys.foldl (fun acc p => acc ++ g.cps ++ p.cps) y.cps).size ≤ _
    rw [len_glue]
    have h2 : y.cps.size = y.length := rfl
    simp only [List.map_cons, List.sum_cons, List.length_cons, Nat.succ_mul, h2]
    omega
theorem eq_texts {a b : Str} : mEq (.str a) (.str b) = some (.bl (decide (a = b))) := by
  show some (D.bl _) = _
  rfl
/-- a loop that hands back the first that fits -/
theorem x_forF1 {α : Type} {gm : GM} {body : SM} {w : Bx} (f : α → D) (P : α → Bool) (I : SL → Prop) : ∀ (l : List α) (S : SL), I S → (∀ a ∈ l, ∀ S, I S → ∃ S1, gm (f a) S = some S1 ∧ ((P a = true ∧ body S1 w = .rt (f a) w) ∨ (P a = false ∧ ∃ S2, body S1 w = .nx S2 w ∧ I S2))) →
    (∃ a, l.find? P = some a ∧ forLoop gm body (l.map f) S w = .rt (f a) w) ∨ (l.find? P = none ∧ ∃ S2, forLoop gm body (l.map f) S w = .nx S2 w ∧ I S2)
  | [], S, h, _ => .inr ⟨rfl, S, rfl, h⟩
  | a :: l, S, h, hs => by
    obtain ⟨S1, h1, h2⟩ := hs a List.mem_cons_self S h
    have go : forLoop gm body ((a :: l).map f) S w = match body S1 w with
        | .nx S2 w2 => forLoop gm body (l.map f) S2 w2
        | .ct S2 w2 => forLoop gm body (l.map f) S2 w2
        | .bk S2 w2 => .nx S2 w2
        | r => r := by
      rw [List.map_cons]
      show (match gm (f a) S with | none => RS.bad | some S1 => _) = _
      rw [h1] <;> rfl
    rw [go]
    rcases h2 with ⟨p, h2⟩ | ⟨p, S2, h2, h3⟩
    · rw [h2]
      exact .inl ⟨a, by rw [List.find?_cons, p], rfl⟩
    · rw [h2]
      rcases x_forF1 f P I l S2 h3 (fun b hb => hs b (List.mem_cons_of_mem _ hb)) with ⟨b, e1, e2⟩ | ⟨e1, S3, e2, e3⟩
      · exact .inl ⟨b, by rw [List.find?_cons, p]; exact e1, e2⟩
      · exact .inr ⟨by rw [List.find?_cons, p]; exact e1, S3, e2, e3⟩
end Y
namespace Y
open PySem PySem.Spec PyProof.Rows L2
section
variable {g : G} {F F1 F2 : FH} {H H1 H2 : Hp} {w w1 w2 : Bx}
end
end Y
namespace Y
open PySem PySem.Spec PyProof.Rows L2
abbrev DKV := List (Key × D)
section
variable {g : G} {F : FH}
end
section
variable {g : G} {F : FH} {H : Hp} {w : Bx} {v : V} {d : D}
end
section
variable {X : Cx} {g : G} {E : EK} {F0 : FH} {H0 : Hp} {e a b o : Expr} {es : List Expr} {pos p apos tpos : Pos} {f fa fb fo fi : EM} {fs fl : AM} {c m : Str} {k n : Nat} {mm : List D → Bx → R D}
end
end Y
namespace Y
open PySem PySem.Spec PyProof.Rows L2
section
variable {g : G} {F : FH} {H : Hp} {w : Bx} {v : V} {d : D}
end
section
variable {X : Cx} {g : G} {E : EK} {F0 : FH} {H0 : Hp} {e a b o : Expr} {es : List Expr} {pos p apos tpos : Pos} {f fa fb fo fi fv : EM} {fs fl : AM} {c m : Str} {k n : Nat} {mm : List D → Bx → R D}
end
end Y
namespace Y
open PySem PySem.Spec PyProof.Rows L2
section
variable {g : G} {F : FH} {H : Hp} {w : Bx} {v : V} {d : D}
end
section
variable {X : Cx} {g : G} {E : EK} {e e2 a b o : Expr} {es : List Expr} {pos p p2 apos : Pos} {fa fb fo f : EM} {fs : AM} {x c m : Str} {k n : Nat} {mm : List D → Bx → R D} {mo : List D → Bx → R (List D)}
end
end Y
namespace Y
open PySem PySem.Spec PyProof.Rows L2
section
variable {T : Tell} {w : World} {h : Heap} {K : Fr}
end
section
variable {P : Program} {w : World} {K : PySem.W.Frag} {mg : Str → Option Value} {base : Heap} {cls : CT}
end
section
variable {X : Cx} {g : G} {E : EK} {e a b o : Expr} {es : List Expr} {pos p p2 kpos : Pos} {fs fk : AM} {x c : Str} {nm : Option Str} {kws : List Keyword} {fe : EM} {k : Nat} {n : Nat → Bool} {m : List D → Bx → R (List (Str × D))}
end
end Y
namespace Y
open PySem PySem.Spec PyProof.Rows L2
section
variable {X : Cx} {g : G} {E : EK} {F0 : FH} {H0 : Hp} {B : FH} {e a b o : Expr} {es : List Expr} {pos p apos : Pos} {f fa fb fo : EM} {c : Str} {tb : List (Str × Bool)} {m : SM}
end
section
variable {X : Cx} {g : G} {E : EK} {a b c : Expr} {pos : Pos} {fa fb fc : EM}
end
end Y
namespace Y
open PySem PySem.Spec PyProof.Rows L2 GenW
section
variable {M : Model} {A : Around} {R : GenEnd} {Y : Protocol} {n : Nat} {s₀ : Shared} {c : Code} {fs : List Frame} {s : Shared} {env : Env}
  {K : Flow → Sem PySem.Fin} {J : Value → Sem PySem.Fin} {gd : Bool → Bool} {lv : List Value → List Value}
end
section
variable {prog : Program} {w : World} {A : Around} {R : GenEnd} {Y : Protocol} {n : Nat} {s₀ : Shared} {fs : List Frame} {s : Shared} {env : Env}
end
section
variable {X : Cx} {tg iter : Expr} {body : List Stmt} {pos : Pos} {wi : TI} {g : TG} {tb : TGn}
end
end Y
namespace Y
open PySem PySem.Spec PyProof.Rows L2 GenW
inductive RG where
  | nx (S : SL) (w : Bx) (ys : List D) | bk (S : SL) (w : Bx) (ys : List D) | ct (S : SL) (w : Bx) (ys : List D) | bad
abbrev SG := List D → SL → Bx → RG
section
variable {X : Cx} {g : G} {F0 : FH} {H0 : Hp} {e tg iter : Expr} {pos yp : Pos} {st : Stmt} {sts body : List Stmt} {m : SM} {mg mg2 : SG} {f : EM} {fi : AM} {gm : GM} {ns : List Nat} {tm : TM}
end
section
variable {P : Program} {w : World} {K : PySem.W.Frag} {mg : Str → Option Value} {base : Heap} {cls : CT}
end
section
variable {X : Cx} {g : G} {E : EK} {o : Expr} {pos pos' p apos : Pos} {fo : EM} {c m : Str} {k : Nat} {mo : List D → Bx → R (List D)}
end
end Y
namespace Y
open PySem PySem.Spec PyProof.Rows L2
section
variable {X : Cx} {body : List Stmt} {b₀ f₀ : Stmt} {fin : List Stmt} {t : Expr} {cs : List Value} {pos hp rp : Pos} {tb : WX → TS} {ts tf tfs : TS} {Wout : WX}
end
end Y
namespace Y
open PySem PySem.Spec PyProof.Rows L2
open L2H (RoomH roomH_of)
section
variable {prog : Program} {w : World} {A : Around} {E : Value → Shared → Prop} {s : Shared}
end
section
variable {P : Program} {w : World} {K : PySem.W.Frag} {mg : Str → Option Value} {base : Heap} {cls : CT}
end
section
variable {X : Cx} {g : G} {e o : Expr} {es : List Expr} {pos apos : Pos} {fo : EM} {fs : AM} {c m : Str} {k n : Nat} {mm : List D → Bx → R D} {C f : Addr} {fd : FuncData} {ps : List Str} {sp : Sp} {E : XK} {ta : TE} {t : TA}
end
/-- the tuple of classes takes the errors of the classes L -/
structure TryT (K : PySem.W.Frag) (cls : CT) (cs : List Value) (L : List Str) : Prop where
  ex : ∀ c ∈ L, ∃ C, cls c = some C ∧ PySem.W.exmAny K (.ref C) cs = some true
section
variable {X : Cx} {g : G} {E : EK} {F0 : FH} {H0 : Hp} {body fin : List Stmt} {b₀ f₀ : Stmt} {mb ms mf : SM} {t : Expr} {cs : List Value} {L : List Str} {pos hp rp : Pos}
end
end Y
namespace Y
open PySem PySem.Spec PyProof.Rows L2
section
variable {P : Program} {w : World} {K : PySem.W.Frag} {mg : Str → Option Value} {base : Heap} {cls : CT}
end
section
variable {X : Cx} {g : G} {e o : Expr} {es : List Expr} {pos apos : Pos} {fo : EM} {fs : AM} {c m : Str} {k : Nat} {n : Nat → Bool} {mm : List D → Bx → R D} {E : XK}
end
section
variable {X : Cx} {g : G} {E : EK} {F0 : FH} {H0 : Hp} {body : List Stmt} {m : SM} {pos p : Pos} {gm : GM} {ns : List Nat} {tg : Expr}
end
end Y
namespace Y
open PySem PySem.Spec PyProof.Rows L2
section
variable {X : Cx} {g : G} {E : EK} {x : Str} {t : List (Str × Int)} {b : Expr} {fb : EM} {p pos : Pos}
end
end Y
namespace Y
open PySem PySem.Spec PyProof.Rows L2
open L2H (RoomH roomH_of)
section
variable {X : Cx} {g : G} {E : EK} {x : Str} {t : List (Str × Int)} {b : Expr} {fb : EM} {p pos : Pos}
end
section
variable {X : Cx} {g : G} {E : EK} {e o : Expr} {es : List Expr} {pos apos : Pos} {fo : EM} {fs : AM} {c m : Str} {k n : Nat} {mm : List D → Bx → R D} {C f : Addr} {fd : FuncData} {ps : List Str} {sp : Sp} {ta : TE} {t : TA}
theorem RoomH.mark {k : Nat} {A : Around} {v : Option Value} (r : RoomH k A) : RoomH k (A.mark v) := ⟨r.dp, r.un⟩
end
inductive NmsA (mg : Str → Option Value) : List Str → List Value → Prop
  | nil : NmsA mg [] []
  | cons {x : Str} {a : Addr} {xs : List Str} {cs : List Value} (h : mg x = some (.ref a)) (r : NmsA mg xs cs) : NmsA mg (x :: xs) (.ref a :: cs)
def TryN (K : PySem.W.Frag) (mg : Str → Option Value) (cls : CT) (xs L : List Str) : Prop := ∃ cs, NmsA mg xs cs ∧ TryT K cls cs L
theorem allC_nil {P : Str → Prop} : ∀ c ∈ ([] : List Str), P c := fun _ h => nomatch h
theorem allC_cons {P : Str → Prop} {x : Str} {l : List Str} (h : P x) (r : ∀ c ∈ l, P c) : ∀ c ∈ x :: l, P c := fun c hc => by
  rcases List.mem_cons.mp hc with e | e
  · rw [e]; exact h
  · exact r c e
section
variable {X : Cx} {g : G} {E : EK} {F0 : FH} {H0 : Hp} {body fin : List Stmt} {b₀ f₀ : Stmt} {mb ms mf : SM} {es : List Expr} {xs L : List Str} {pos hp rp tpos : Pos} {k : Nat}
end
section
variable {T : Tell} {w : World} {h : Heap} {K : Fr}
theorem oexGB_ok {nw : String} {tl : List Value} {C : Addr} (e : oexGB nw tl K C = true) : ∃ nm q N bs bm sn sub ab col dd k0 k1 k2 k3 k5, K.lookup C = some (excClassObj nm q C N bs bm true sn sub ab col dd k0 k1 k2 k3 k5 nw) ∧ refsT tl bm = true := by
  unfold oexGB at e
  split at e
  · rename_i t dd cd sl hq
    obtain ⟨e1, e⟩ := He.ba e
    obtain ⟨e2, e⟩ := He.ba e
    obtain ⟨e3, e⟩ := He.ba e
    obtain ⟨e4, e5⟩ := He.ba e
    obtain ⟨c1, c2, c3, c4, c5, c6, c7, c8, c9, c10, c11⟩ := cd
    dsimp only at e2 e3 e4
    subst e2
    have e3 : c11 = false := by cases c11 <;> first | rfl | cases e3
    subst e3
    have e1 := of_decide_eq_true e1
    subst e1
    split at e4
    · rename_i C' bm
      obtain ⟨f1, f2⟩ := He.ba e4
      have f1 := of_decide_eq_true f1
      subst f1
      split at e5
      · rename_i k0 k1 k2 k3 n k5 hs
        have e5 := of_decide_eq_true e5
        subst e5
        obtain ⟨sl⟩ := sl
        have hs : sl = _ := hs
        subst hs
        exact ⟨_, _, _, _, _, _, _, _, _, _, _, _, _, _, _, hq, f2⟩
      · cases e5
    · cases e4
  · cases e
end
end Y
namespace Y
open PySem PySem.Spec PyProof.Rows L2
section
variable {X : Cx} {g : G} {E : EK} {x : Str} {t : List (Str × Int)} {a b : Expr} {fa fb : EM} {p pos : Pos}
end
end Y
namespace Y
open PySem PySem.Spec PyProof.Rows L2
section
variable {X : Cx}
end
section
variable {X : Cx} {g : G} {E : EK} {a b : Expr} {fa fb : EM} {pos : Pos}
end
end Y
namespace Y
section
open PySem PySem.Spec PyProof.Rows PySem.Builtin PySem.Builtin.Str PySem.Builtin.Int PySem.Builtin.Float
section
variable {X : L2.Cx} {e : Expr} {te : L2.TE} {sp : Str} {n k : Nat} {pos p1 p2 : Pos}
end
end
open PySem PySem.Spec PyProof.Rows L2
section
variable {X : Cx} {g : G} {E : EK} {a : Expr} {fa : EM} {sp : Str} {n k : Nat} {pos p1 p2 : Pos}
end
section
variable {X : Cx} {CX : CXT} {k : Nat} {C p g a dx : Addr} {fs : List (Str × V)} {f : Str} {fd : FuncData} {ps : List Str} {sp : Sp} {E : XK} {o value : Expr} {pos pos' : Pos} {ta tv : TE} {y : V} {u : Value}
end
section
variable {X : Cx} {g : G} {E : XK} {F0 : FH} {H0 : Hp} {a o : Expr} {pos tpos : Pos} {fa fo : EM} {c : Str} {k : Nat} {mm : List D → Bx → R D}
end
section
variable {X : Cx} {pins : List (Addr × Obj)} {σ : L2.St} {H : Hp} {s : Shared} {a : Addr} {d : V} {r : Value} {A : Around} {E : Value → Shared → Prop}
end
section
variable {X : Cx} {o e f : Expr} {td ty tx : TE} {apos cpos : Pos}
end
section
variable {X : Cx} {g : G} {E : EK} {a b c : Expr} {pos apos : Pos} {fa fb fc : EM}
end
section
variable {X : Cx} {g : G} {E : EK} {pos : Pos}
end
end Y
namespace Y
open PySem PySem.Spec PyProof.Rows L2
section
variable {S S1 S2 : SL} {w w1 w2 w3 : Bx} {f fa fb fo fk fv h : EM} {fs gs : AM} {ka : SL → Bx → R DKV} {ks : DKV} {d e z x : D} {ds es : List D} {i : Nat} {b ng : Bool} {c n m : Str} {mm : List D → Bx → R D} {mo : List D → Bx → R (List D)} {mi : List D → Bx → R (List (Str × D))} {fl : List (Str × D)} {nn : Nat → Bool} {k k2 : Nat} {k0 : Key}
end
end Y
namespace Y
open PySem PySem.Spec PyProof.Rows L2
section
variable {S : SL} {w w1 w2 w3 : Bx} {fa fb fc : EM} {m1 m2 : D → D → Option D} {d e q z : D}
end
/-- the cells of a room -/
structure Ids where
  a : Nat
  b : Nat
  d : Nat
  e : Nat
  p : Nat
  f : Nat
/-- what a room holds -/
structure RM where
  lines : List D
  scripts : List D
  drafts : DKV
  done : List D
  past : List D
  future : List D
  most : Int
section
variable {w : Bx} {c : Str} {i : Nat} {x : Ids} {m : RM} {hd : Bool}
end
section
variable {S : SL} {w : Bx} {fs : AM} {ds : List D} {ks : DKV} {ka : SL → Bx → R DKV} {cs : List Cell}
end
section
variable {w : Bx} {c : Str} {i : Nat} {x : Ids} {m : RM} {hd : Bool} {cs : List Cell}
end
end Y
namespace Y
open PySem PySem.Spec PyProof.Rows L2
section
variable {w w' : Bx} {c : Str} {i : Nat} {x : Ids} {m : RM} {hd : Bool} {ds : List D} {ks : DKV}
end
end Y
namespace Y
open PySem PySem.Spec PyProof.Rows L2
section
variable {α : Type}
variable {g : α → D} {l : List (Str × α)} {n : Str} {v : α}
end
abbrev Dr := Nat × List Ed
structure Md where
  rows : List (List Nat)
  made : List (Option (List Ed))
  drafts : List (Str × Dr)
  done : List D
section
variable {nm : Str → Bool} {s : Md} {n : Str} {e : Ed}
end
end Y
namespace Y
open PySem PySem.Spec PyProof.Rows L2
section
variable {S S1 S2 S3 : SL} {w w1 w2 w3 : Bx} {mb ms mf body : SM} {L : List Str} {c m : Str} {fs : List (Str × D)} {gm : GM} {fo : EM} {as : AM} {ds es : List D} {d z : D} {mm : List D → Bx → R D} {nn : Nat → Bool}
end
section
variable {S : SL} {w w1 w2 : Bx} {f fo fk fv : EM} {as : AM} {c : Str} {l : List (Str × D)} {d : D}
end
section
variable {α : Type} {g : α → D} {l : List (Str × α)} {n : Str} {v : α} {w : Bx} {d : D}
end
section
variable {w : Bx} {c : Str} {i : Nat} {x : Ids} {m : RM} {hd : Bool}
end
section
variable {S : SL} {w : Bx} {l : List Nat} {mo : Int} {fs gs : AM} {c : Str} {m : List D → Bx → R (List (Str × D))}
end
end Y
namespace Y
open PySem PySem.Spec PyProof.Rows L2
end Y
namespace Y
open PySem PySem.Spec PyProof.Rows L2
end Y
namespace Y
open PySem PySem.Spec PyProof.Rows L2
section
variable {S : SL} {w w1 w2 : Bx} {fo : EM} {fs : AM} {c m : Str} {k : Nat} {d z : D} {ds es : List D} {mm : Str → List D → Bx → R D} {mo : Str → List D → Bx → R (List D)}
end
end Y
namespace Y
open PySem PySem.Spec PyProof.Rows L2
section
variable {X : Cx} {g : G} {E : EK} {F0 : FH} {H0 : Hp} {body : List Stmt} {m : SM} {pos : Pos} {gm : GM} {ns : List Nat} {tg ex : Expr} {fa : EM}
end
end Y
namespace Y
open PySem PySem.Spec PyProof.Rows L2
section
variable {X : Cx} {g : G} {o : Expr} {pos apos : Pos} {fo : EM} {c m : Str} {k : Nat} {n : Nat → Bool} {mm : List D → Bx → R D} {E : XK}
end
end Y
namespace Y
open PySem PySem.Spec PyProof.Rows L2
section
variable {X : Cx} {g : G} {E : EK} {e a b o : Expr} {pos p p2 : Pos} {f fa fb : EM} {x c c2 m : Str} {k n : Nat} {mm : List D → Bx → R D}
end
section
variable {S : SL} {w w1 w2 w3 : Bx} {fa fb : EM} {d e : D} {r : R D} {c c2 : Str} {mm : List D → Bx → R D} {b : Bool}
end
end Y
namespace Y
open PySem PySem.Spec PyProof.Rows L2
/-- an exception without a context is an exception -/
theorem Takes.toN {X : Cx} {W : WX} (t : Takes X W) : L2N.Takes X W := fun u s' ⟨a, B, sI, pins, σ, H, cls, d, e, I, nb, up, sky, na, os, ag, w⟩ => t u s' ⟨a, B, sI, pins, σ, H, cls, d, e, I, nb, up, by
  rcases sky with ⟨h1, h2, h3, oe, vs, h4, z, h5, h6⟩ | fl | hd
  · exact .inl ⟨h1, h2, h3, oe, vs, h4, z.zc, h5, h6⟩
  · exact .inr (.inl (L2H.flyingZ_imp (fun o z => z.zc) fl))
  · exact .inr (.inr ⟨hd.1, hd.2.1, hd.2.2.1, L2H.tracedZ_imp (fun o z => z.zc) hd.2.2.2⟩), na, os, ag, w⟩
section
variable {X : Cx} {g : G} {E : EK} {F0 : FH} {H0 : Hp} {en pre : Str} {i j : Nat} {t : Expr} {cs : List Value} {L : List Str} {body : List Stmt} {mb : SM} {q1 q2 q3 q4 q5 q6 cpos pos : Pos}
end
section
variable {L : List Str} {pre z : Str} {mb : SM} {S S1 : SL} {w w1 : Bx} {c : Str} {fs : List (Str × D)} {d : D}
end
end Y
namespace Y
open PySem PySem.Spec PyProof.Rows L2
end Y
namespace Y
open PySem PySem.Spec PyProof.Rows L2
section
variable {X : Cx} {g : G} {pos p : Pos} {fk : AM} {c : Str} {k : Nat} {m : List D → Bx → R (List (Str × D))} {kws : List Keyword}
end
end Y
namespace Y
open PySem PySem.Spec PyProof.Rows L2 GenW
/-- a generator's call: the def's frame; the loop's list S; what the loop keeps of a state in which it wakes the generator; the generator's own object -/
structure GP where
  P : Program
  w : World
  K : PySem.W.Frag
  mg : Str → Option Value
  base : Heap
  N : List Str
  qual : Str
  scope : Scope
  f : Addr
  cd : Value
  A : Around
  outer : List Env
  n : Nat
  sc : Shared
  S : Addr
  good : Shared → Hp → FH → List D → Prop
  own : Addr × Obj
  fin : List D
section
variable {Φ : GP} {g : G} {e tg iter : Expr} {pos yp : Pos} {st : Stmt} {sts body : List Stmt} {m : SM} {mg mg2 : SG} {f : EM} {fi : AM} {gm : GM} {ns : List Nat} {tm : TM}
end
end Y
namespace Y
open PySem PySem.Spec PyProof.Rows L2 GenW
end Y
namespace Y
open PySem PySem.Spec PyProof.Rows L2 GenW
section
variable {X : Cx} {pins : List (Addr × Obj)} {σ σ' : L2.St} {H : Hp} {s : Shared}
end
section
variable {X : Cx} {pos : Pos} {g : G} {e : Expr}
end
section
variable {X : Cx} {e : Expr} {es : List Expr} {te : TE} {t : TA} {pos : Pos} {g : G}
end
end Y
namespace Y
open PySem PySem.Spec PyProof.Rows L2 GenW
end Y
namespace Y
open PySem PySem.Spec PyProof.Rows L2 GenW
open Classical in
noncomputable def rem (H : Hp) (S : Addr) : Hp := fun a => if a = S then none else H a
section
variable {g : G} {F F' : FH} {H H' H1 : Hp} {w w' : Bx} {S : Addr} {vs : List V}
end
section
variable {X : Cx} {g : G} {e : Expr} {es : List Expr} {pos : Pos} {k : SL → Option (List D)}
end
end Y
namespace Y
open PySem PySem.Spec PyProof.Rows L2 GenW
section
variable {X : Cx} {pins : List (Addr × Obj)} {σ : L2.St} {H : Hp} {s : Shared}
end
end Y
namespace Y
open PySem PySem.Spec PyProof.Rows L2 GenW
end Y
namespace Y
open PySem PySem.Spec PyProof.Rows L2
open L2H (RoomH roomH_of)
section
variable {X : Cx} {c : Str} {p pos p2 : Pos} {e : Expr} {es : List Expr} {t : TA} {k n : Nat} {f : Addr} {fd : FuncData} {ps : List Str} {sp : Sp}
theorem RoomH.make {k : Nat} {A : Around} (r : RoomH (k + 1) A) (C : Addr) (us : List Value) (kw : List (Str × Value)) : RoomH k (A.under (.builtin "type.__call__" ⟨.ref C :: us, kw⟩)) :=
  ⟨by have := r.dp; rw [make_depth]; omega, by have := r.un; rw [make_units]; omega⟩
end
/-- made where an exception is handled: its record has six fields -/
theorem mk_endH {X : Cx} {pins : List (Addr × Obj)} {σ : L2.St} {H1 H2 : Hp} {Q : XK} {hp hp2 h2 : Heap} {g1 g2 : Array GenState} {d1 d2 : Drawn} {t1 t2 : Nat} {os1 os2 : OsState} {a C d : Addr} {fs : List (Str × V)} (T : Raises X (.ref C)) (I1 : Inv X pins σ H1 ⟨hp, g1, d1, t1, os1⟩) (ha : hp.objs.size ≤ a)
    (k : ∀ b o, hp.get? b = some o → hp2.get? b = some o) (un : Un (frs X.stack) [] (upd H1 a (exo a C none)) H2 hp2 h2) (hok : HOk X.prog X.w H2 h2) (ho : os2 = os1) (hb : AllBare g2) (ea : H2 a = some (exo a C (some d))) (ed : H2 d = some (exd d fs)) (hd1 : H1 d = none) (q : Q (.ref C) (some d) (upd (del H2 a) d (.xd fs))) :
    L2N.MkP X pins σ Q (.ref a) ⟨h2, g2, d2, t2, os2⟩ ∧ L2H.Six (.ref a) ⟨h2, g2, d2, t2, os2⟩ := by
  obtain ⟨t0, G, J, kG, ge, hoe, na⟩ := mk_end0 (d2 := d2) (t2 := t2) I1 ha k un hok ho hb ea ed hd1
  refine ⟨⟨a, _, _, ⟨G, g2, d2, t2, os2⟩, _, .ref C, some d, rfl, J, kG, ge, hoe, ⟨rfl, rfl, fun vs e => by cases e; rfl⟩, rfl, rfl, na, rfl, hb, T, q⟩, fun a' oe vs ea' hg hd => ?_⟩
  cases ea'
  have z : some oe = some _ := hg.symm.trans hoe
  cases z
  cases hd
  show (4 : Nat) < 6
  decide
theorem mkH_run {b : XB} {X : Cx} {CX : CXT} {C fI : Addr} {k : Nat} {fd : FuncData} {ps : List Str} {sp : Sp} {pins : List (Addr × Obj)} {s1 : Shared} {σ : L2.St} {H1 : Hp} {Q : XK} {us : List Value} {vs : List V} (O : XbOk b) (T : OexG b X.K C) (iC : PySem.W.findIn X.K (.ref C) "__init__" = some (some (.ref fI))) (tI : PySem.W.typeIn X.K (.ref fI) = some (.type "function"))
    (F1 : L2H.FnH X.prog X.w X.K X.mg X.base CX k fI fd ps sp) (hr : RoomH (k + 1) X.A) (hot : L2H.HotC X) (hb : Binds X.K fd ps []) (hx : Passes CX X (fun _ _ _ => False)) (I1 : Inv X pins σ H1 s1) (r1 : Vals vs us) (hz : vs.length ≤ 1000)
    (q1 : ∀ a, H1 a = none → sp (.ref a :: vs) (upd H1 a (exo a C none)) (fun v H2 => v = .non ∧ ∃ (d : Addr) (fs : List (Str × V)), H2 a = some (exo a C (some d)) ∧ H2 d = some (exd d fs) ∧ H1 d = none ∧ Q (.ref C) (some d) (upd (del H2 a) d (.xd fs))) (fun _ _ _ => False)) :
    wpAny (model X.prog X.w) X.A (call (.ref C) us) (fun u s' => L2N.MkP X pins σ Q u s' ∧ L2H.Six u s') X.xe s1 := by
  obtain ⟨nm, q, N, bs, bm, sn, sub, ab, col, dd, k0, k1, k2, k3, k5, hC, hbm⟩ := T.cls
  obtain ⟨hp, g, dr, tk, os⟩ := s1
  have hsz : hp.objs.size ≤ hp.objs.size + 1 := Nat.le_succ _
  have hn : H1 (hp.objs.size + 1) = none := I1.hok.fresh hsz
  have hq := q1 (hp.objs.size + 1) hn
  have kk : ∀ b o, hp.get? b = some o → ((hp.push (PySem.W.kdv_tup us)).push (PySem.HandSPX.excO C hp.objs.size)).get? b = some o := fun b o e => Heap.get?_push_of_some _ (Heap.get?_push_of_some _ e)
  have hget : ((hp.push (PySem.W.kdv_tup us)).push (PySem.HandSPX.excO C hp.objs.size)).get? (hp.objs.size + 1) = some (PySem.HandSPX.excO C hp.objs.size) := by heap_get
  have I2 : Inv X pins σ (upd H1 (hp.objs.size + 1) (exo (hp.objs.size + 1) C none)) ⟨(hp.push (PySem.W.kdv_tup us)).push (PySem.HandSPX.excO C hp.objs.size), g, dr, tk, os⟩ :=
    I1.laid (t' := tk) (a := hp.objs.size + 1) (o := exo (hp.objs.size + 1) C none) (h' := (hp.push (PySem.W.kdv_tup us)).push (PySem.HandSPX.excO C hp.objs.size)) kk hsz (exo_ok hget)
  have r2 : Vals (V.ref (hp.objs.size + 1) :: vs) (Value.ref (hp.objs.size + 1) :: us) := .cons rfl r1
  have hl : (Value.ref (hp.objs.size + 1) :: us).length = ps.length := by
    have e := r2.length
    rw [F1.len _ _ _ _ hq] at e
    exact e.symm
  have hus : us.length ≤ sizeLine := by
    rw [← Paired.length r1, sizeLine_eq]; omega
  have hbb := hb _ (Value.ref (hp.objs.size + 1) :: us) I2.kIn (by rw [List.append_nil]; exact hl)
  rw [List.append_nil] at hbb
  obtain ⟨p, hot1, hpp⟩ := hot
  have P1 := I2.pin p (List.mem_append_left _ hpp)
  have hpin : L2H.PinOk X.stack (upd H1 (hp.objs.size + 1) (exo (hp.objs.size + 1) C none)) ⟨(hp.push (PySem.W.kdv_tup us)).push (PySem.HandSPX.excO C hp.objs.size), g, dr, tk, os⟩ p := ⟨P1.1, P1.2.1, fun hm => (List.mem_cons.mp (I2.stkSub p.1 hm)).elim P1.2.2.1 P1.2.2.2.1, P1.2.2.2.2⟩
  refine wpAny_call (PySem.HandSPX.call_own O.F (fun Y => refsT_has Y bm hbm) (I1.kIn _ _ hC) (PySem.W.looks_findIn I1.kIn iC) (fun self => PySem.W.bind_fn I1.kIn self tI) hus
    (codeAny_mono (F1.run _ X.stack _ _ ⟨Value.ref (hp.objs.size + 1) :: us, []⟩ (Value.ref (hp.objs.size + 1) :: us) _ _ (fun _ _ _ => False) p (RoomH.make hr C us []) hot1 hpin (I2.env0.make C us []) hbb r2 hq) fun r s' hq' => ?_))
  cases r with
  | error er => exact hx pins σ _ _ er s' I2 hq'
  | ok fl =>
    cases fl with
    | ret u =>
      obtain ⟨v, H2, os2, bare2, un2, hok2, rv, ev, d, fs, ea, ed, hd1, q2⟩ := hq'
      subst ev
      obtain ⟨h2, g2, d2, t2, os'⟩ := s'
      exact ⟨rv, mk_endH (raises_own T.exC T.tyC) I1 hsz kk un2 hok2 os2 bare2 ea ed hd1 q2⟩
    | next => exact False.elim hq'
    | brk => exact False.elim hq'
    | cont => exact False.elim hq'
theorem pmk_H {b : XB} {X : Cx} {CX : CXT} {x : Str} {C fI : Addr} {k : Nat} {fd : FuncData} {ps : List Str} {sp : Sp} {e : Expr} {es : List Expr} {ta : TA} {p pos : Pos} (O : XbOk b) (T : OexG b X.K C) (iC : PySem.W.findIn X.K (.ref C) "__init__" = some (some (.ref fI))) (tI : PySem.W.typeIn X.K (.ref fI) = some (.type "function"))
    (F1 : L2H.FnH X.prog X.w X.K X.mg X.base CX k fI fd ps sp) (hr : RoomH (k + 1) X.A) (hot : L2H.HotC X) (hb : Binds X.K fd ps []) (hx : Passes CX X (fun _ _ _ => False)) (hg : Gl X x) (hm : X.mg x = some (.ref C)) (ha : PA X (e :: es) ta)
    (hdb : (x == ("__debug__" : Str)) = false := by decide) (he : starEach (e :: es) X.env = (false, eval e X.env) :: starEach es X.env := by rfl) (hpl : (backTo pos (starEach es X.env)).any (·.1) = false := by rfl) :
    L2H.PMk5 X (.Call (.Name x p) (e :: es) [] pos) (tMkT C sp ta) := by
  intro pins s σ H Q I h
  refine wpAny_Call_Name_kw (ld_glob I hg hm ?_ hdb)
  refine PySem.W.callWith_K (h₀ := X.base) I.ok.mod.kin T.kC (thn (ha.run pos pins s σ H _ I h) fun us s1 ⟨vs, H1, I1, r1, hz, q1⟩ => ⟨I1.kIn, ?_⟩) he hpl
  exact mkH_run O T iC tI F1 hr hot hb hx I1 r1 hz q1
/-- an own exception whose __init__ may run where an exception is handled -/
structure ExGH (b : XB) (P : Program) (w : World) (K : PySem.W.Frag) (mg : Str → Option Value) (base : Heap) (cls : CT) (c f T : Str) : Prop where
  ex : ∃ (C fI : Addr) (fd : FuncData) (ps : List Str), mg c = some (.ref C) ∧ cls c = some C ∧ OexG b K C ∧ PySem.W.findIn K (.ref C) "__init__" = some (some (.ref fI)) ∧ PySem.W.typeIn K (.ref fI) = some (.type "function") ∧
    L2H.FnH P w K mg base (L2N.CX P w) 1 fI fd ps (spX C f T) ∧ Binds K fd ps []
theorem exgH_of {P : Program} {w : World} {K : PySem.W.Frag} {mg : Str → Option Value} {base : Heap} {tb : List (Addr × Str)} {c f qual T : Str} {st : Stmt} {b : XB} (h : ExGF b K mg c f qual st) (S : FnScope [("self" : Str), f] [("self" : Str), f] (defScope st))
    (hp : ∀ X : Cx, X.N = [("self" : Str), f] → X.env.scope = defScope st → PSs X (defBody st) (tSeq (tOsT b X.K f (tVar 0) (tVar 1)) (tOsT b X.K "tag" (tVar 0) (tC (.str T))))) : ExGH b P w K mg base (clsOf mg tb) c f T := by
  obtain ⟨C, fI, fd, h1, hO, hi, hty, F, hb, hf, ht⟩ := h
  obtain ⟨oc, od, kV, dc, pm, an, cv, ct, sl, rfl, lk, hcd⟩ := F.ex
  refine ⟨C, fI, _, _, h1, clsOf_eq h1, hO, hi, hty, L2H.fn_ofH lk hcd S (fun vs H Q E h => by obtain ⟨a, v, rfl, _⟩ := h; rfl) (fun A outer s H vs Q E p hot hr h => ?_), hb⟩
  obtain ⟨a, v, rfl, ha, q⟩ := h
  refine ⟨_, hp _ rfl rfl, v, rfl, .ref a, rfl, a, C, rfl, hO, hf, .inl ⟨ha, fun dx nd ne => ⟨.ref a, rfl, a, C, rfl, hO, ht, .inr ⟨dx, [(f, v)], upd_same, ?_, by simp, q dx nd ne⟩⟩⟩⟩
  rw [upd_ne ne]; exact upd_same
section
variable {X : Cx} {g : G} {E : EK} {F0 : FH} {H0 : Hp} {e : Expr} {es : List Expr} {pos p pos2 cpos : Pos} {fe : EM} {fs : AM} {c f T x : Str} {b : XB} {j k n : Nat} {m : List D → Bx → R D}
theorem ds_raiseN (O : XbOk b) (hot : L2H.HotC X) (M : ExGH b X.prog X.w X.K X.mg X.base g.cls c f T) (hr : RoomH 2 X.A) (tk : Takes X (fun cls d σ H => E σ cls d H)) (ha : DE X g E e fe) (hg : Gl X c := by rfl) (hdb : (c == ("__debug__" : Str)) = false := by decide)
    (he : starEach [e] X.env = [(false, eval e X.env)] := by rfl) : DS X g E F0 H0 (.Raise (some (.Call (.Name c p) [e] [] pos)) (some (.Constant .none j cpos)) pos2) (sRaise c f T fe) := by
  obtain ⟨C, fI, fd, ps, hm, hcl, hO, hi, hty, F, hb⟩ := M.ex
  obtain ⟨ta, pa, ra⟩ := ha.run
  have hx : Passes (L2N.CX X.prog X.w) X (fun _ _ _ => False) := passes_pl tk fun _ _ _ _ z => z.elim
  refine ⟨_, L2H.ps_raiseHN hot tk (pmk_H (CX := L2N.CX X.prog X.w) O hO hi hty F hr hot hb hx hg hm (pa_cons pa pa_nil he) hdb he), fun N σ H F S w B R h => ?_⟩
  refine ra σ H _ F S w R.rel (PostG.imp (PostS.to R h) fun d w1 _ h1 v H1 F1 x1 r1 => ?_)
  refine ⟨by show 1 ≤ 1000; decide, fun a na => ⟨a, v, rfl, upd_same, fun dx nd ne => ?_⟩⟩
  have nd1 : H1 dx = none := by rw [upd_ne ne] at nd; exact nd
  refine ⟨rfl, dx, [("tag", .str T), (f, v)], ?_, upd_same, nd1, ?_⟩
  · rw [upd_ne ne.symm]; exact upd_same
  · have eq : upd (del (upd (upd (upd (upd H1 a (exo a C none)) dx (exd dx [(f, v)])) a (exo a C (some dx))) dx (exd dx [("tag", .str T), (f, v)])) a) dx (.xd [("tag", .str T), (f, v)]) = upd H1 dx (.xd [("tag", .str T), (f, v)]) := by
      funext b
      by_cases e1 : b = dx
      · rw [e1, upd_same, upd_same]
      · rw [upd_ne e1, upd_ne e1]
        by_cases e2 : b = a
        · rw [e2, del_same, na]
        · rw [del_ne e2, upd_ne e1, upd_ne e2, upd_ne e1, upd_ne e2]
    rw [eq]
    have x2 := Ext.own (o := .xd [("tag", .str T), (f, v)]) x1.sub x1.bx nd1
    exact h1 σ _ F1 (R.ext' (x1.trans x2)) C dx _ (R.ext.fresh (x1.fresh nd1)) hcl upd_same (.cons (.str T) (.cons r1 .nil))
/-- f(..) where the wish looks at the slots -/
theorem de_callE (hK : g.K = X.K) (M : Cal X.prog X.w X.K X.mg X.base g.cls x k n m) (hr : Room k X.A) (tk : L2N.Takes X (fun cls d σ H => E σ cls d H)) (ha : DA X g E (e :: es) fs) (hg : Gl X x := by rfl) (hdb : (x == ("__debug__" : Str)) = false := by decide)
    (hst : starEach (e :: es) X.env = (false, eval e X.env) :: starEach es X.env := by rfl) (hpl : (backTo pos (starEach es X.env)).any (·.1) = false := by rfl) : DE X g E (.Call (.Name x p) (e :: es) [] pos) (eCall n m fs) := by
  obtain ⟨f, fd, ps, F, hm, hk, hb⟩ := M.ex
  obtain ⟨t, pt, rt⟩ := ha.run
  refine ⟨_, pe_callS (E := E) F hr hg hm hk hb (fun σ => L2N.passAt tk σ) pt hdb hst hpl, fun σ H Q F1 S w R h => ?_⟩
  refine rt σ H _ F1 S w R (PostG.imp (PostG.bind h) fun ds w1 _ h1 vs H1 F2 x1 r1 => ?_)
  by_cases hl : ds.length = n
  · rw [if_pos hl] at h1
    show spM X.K g.cls n m vs H1 Q (E σ)
    rw [← hK]
    exact ⟨by rw [r1.length]; exact hl, g.bq, F2, ds, w1, x1.sub, x1.bx, r1, Post.of x1 h1⟩
  · rw [if_neg hl] at h1; exact h1.elim
end
/-- the suite's own wish -/
def wSu (K : PySem.W.Frag) (cs : List Value) (ts : Addr → Value → Option Addr → TS) (D : Ends) : WX := fun cls d σ H => PySem.W.exmAny K cls cs = some true ∧ ∀ a, H a = none → ts a cls d D σ H
section
variable {X : Cx} {body suite : List Stmt} {b₀ : Stmt} {t : Expr} {cs : List Value} {pos hp : Pos} {tb : WX → TS} {ts : Addr → Value → Option Addr → TS} {Wout : WX}
theorem ps_tryS (hs : X.stack = X.env :: X.outer) (hf : X.env.frame = some X.env.locals) (tk : Takes X Wout) (hpa : ∀ hd : Option Value, PassesOwnAt (model X.prog X.w) (X.A.mark hd) X.A X.env X.xe) (ht : TestE X t cs)
    (hb : ∀ (W : WX) (pn : List (Addr × Obj)) (xe : Value → Shared → Prop), L2N.Takes (X.tr pn xe) W → PassesOwn (model X.prog X.w) X.A X.env xe → PSs (X.tr pn xe) body (tb W))
    (hsu : ∀ (a : Addr) (oe : Obj) (cls : Value) (d : Option Addr) (pn : List (Addr × Obj)), Takes (L2H.suiteX X a ((a, oe) :: pn)) Wout → L2H.HotC (L2H.suiteX X a ((a, oe) :: pn)) → PSs (L2H.suiteX X a ((a, oe) :: pn)) (b₀ :: suite) (ts a cls d)) :
    PS X (.Try body [.ExceptHandler (some t) none (b₀ :: suite) hp] [] [] pos) (fun D σ H => tb (wSu X.K cs ts D) D σ H) := by
  refine ⟨fun pins s σ H D I h => ?_⟩
  have xok := I.ok
  have hfr : X.A.frames = some (X.env :: X.outer) := by rw [xok.frames, hs]
  refine wpAny_Try_except ?_
  have run := (hb (wSu X.K cs ts D) (X.pn ++ pins) (fun e s₁ => wpAny (model X.prog X.w) X.A (noteFrame e X.env) (fun _ s₂ => wpAny (model X.prog X.w) X.A (setFlight e none) (fun _ s₃ => wpAny (model X.prog X.w) X.A (handleBy e X.env [.ExceptHandler (some t) none (b₀ :: suite) hp]) (SP X pins D) X.xe s₃) X.xe s₂) X.xe s₁) (fun u s' xx => by
    obtain ⟨a, B, sI, pins', σ', H', cls, d, rfl, J', nb, up, sky, na, os, ag, hx, hw⟩ := xx
    have J : Inv X pins σ' H' sI := J'.ofTry xok
    have sky2 : Sky B (X.env :: X.outer) a (L2N.Zn cls d) X.env.locals s'.heap := by rw [← hs]; exact sky
    show wpAny (model X.prog X.w) X.A (noteFrame (.ref a) X.env) _ _ _
    refine L2N.Sky.land L2N.Zn.steady hfr hf sky2 fun h3 fl3 up3 => ?_
    have JA : Inv X pins σ' H' { s' with heap := h3 } := J.landed nb fl3.1 (up.trans up3) os ag
    obtain ⟨oA, vA, hA, zA, dA⟩ := fl3.there
    have away : a ∉ frs (X.env :: X.outer) := fun hm => by
      obtain ⟨_, o2, e3, e4⟩ := fl3.2.2.1.mem hm
      rw [hA] at e3; cases e3
      exact e4 _ dA
    have aL : a ≠ X.env.locals := fun z => away (List.mem_filterMap.mpr ⟨X.env, List.mem_cons_self, by rw [hf, z]⟩)
    have aF : a ∉ X.fs := fun hm => by
      obtain ⟨e, he, q⟩ := List.mem_filterMap.mp hm
      exact away (List.mem_filterMap.mpr ⟨e, List.mem_cons_of_mem _ he, q⟩)
    refine PySem.W.exc_clause (ht (JA.suite hA dA na aL aF) fun c' h' kp mt => ?_)
    have fl' := flying_grow fl3 kp
    have up' := (up.trans up3).trans (upTo_grow kp)
    refine ⟨true, mt cls true a (fun A Q E s k q => wpAny_typeOf_ref (k _ _ (kp _ _ hA)) (by rw [zA.1]; exact q)) hx, ?_⟩
    refine HandSPX.lands_againZ fl' fun h4 fl4 up4 => ?_
    have JB : Inv X pins σ' H' { s' with heap := h4 } := J.landed nb fl4.1 (up'.trans up4) os ag
    obtain ⟨oB, vB, hB, zB, dB⟩ := fl4.there
    have SB := JB.suite hB dB na aL aF
    have tkS : Takes (L2H.suiteX X a ((a, oB) :: (X.pn ++ pins))) Wout := fun u2 s2 x2 => by
      obtain ⟨a2, B2, sI2, pn2, σ2, H2, cls2, d2, e2, I2, nb2, up2, sky3, na2, os2, ag2, w2⟩ := x2
      exact tk u2 s2 ⟨a2, B2, sI2, pins, σ2, H2, cls2, d2, e2, L2H.unsuiteX I2 xok, nb2, up2, sky3, na2, os2, ag2, w2⟩
    have hot : L2H.HotC (L2H.suiteX X a ((a, oB) :: (X.pn ++ pins))) := ⟨(a, oB), ⟨rfl, vB, dB, zB.2.2 vB dB⟩, List.mem_cons_self⟩
    refine wpAny_mono ((hsu a oB cls d (X.pn ++ pins) tkS hot).run [] _ σ' H' _ (L2H.suiteX_of SB) (hw a na)) (fun fl s6 hsp => ?_) (fun e6 s6 z => hpa (some (.ref a)) e6 s6 z)
    cases fl with
    | next => obtain ⟨σ6, H6, S6, q6⟩ := hsp; exact ⟨_, _, L2H.unsuiteX S6 xok, q6⟩
    | brk => obtain ⟨σ6, H6, S6, q6⟩ := hsp; exact ⟨_, _, L2H.unsuiteX S6 xok, q6⟩
    | cont => obtain ⟨σ6, H6, S6, q6⟩ := hsp; exact ⟨_, _, L2H.unsuiteX S6 xok, q6⟩
    | ret u => obtain ⟨v6, σ6, H6, S6, r6, q6⟩ := hsp; exact ⟨_, _, _, L2H.unsuiteX S6 xok, r6, q6⟩) PassesOwn.looking).run [] s σ H D (I.toTry _) h
  refine wpAny_mono run (fun fl s1 hsp => ?_) (fun e s1 he => he)
  cases fl with
  | next => obtain ⟨σ', H', J', q⟩ := hsp; exact wpAny_execs_nil ⟨σ', H', J'.ofTry xok, q⟩
  | brk => obtain ⟨σ', H', J', q⟩ := hsp; exact ⟨σ', H', J'.ofTry xok, q⟩
  | cont => obtain ⟨σ', H', J', q⟩ := hsp; exact ⟨σ', H', J'.ofTry xok, q⟩
  | ret u => obtain ⟨v, σ', H', J', r, q⟩ := hsp; exact ⟨v, σ', H', J'.ofTry xok, r, q⟩
end
/-- the suite, where the body's error is of the classes L -/
def sTryS (L : List Str) (mb ms : SM) : SM := fun S w => match mb S w with
  | .err S1 c _ w1 => if c ∈ L then ms S1 w1 else .bad
  | r => r
section
variable {X : Cx} {g : G} {E : EK} {F0 : FH} {H0 : Hp} {body : List Stmt} {b₀ : Stmt} {mb ms : SM} {t : Expr} {cs : List Value} {L : List Str} {pos hp : Pos}
theorem ds_tryS (hK : g.K = X.K) (ht : TestE X t cs) (M : TryT X.K g.cls cs L) (tk : Takes X (fun cls d σ H => E σ cls d H)) (hpa : ∀ hd : Option Value, PassesOwnAt (model X.prog X.w) (X.A.mark hd) X.A X.env X.xe)
    (hb : ∀ (pn : List (Addr × Obj)) (xe : Value → Shared → Prop) (E' : EK), L2N.Takes (X.tr pn xe) (fun cls d σ H => E' σ cls d H) → PassesOwn (model X.prog X.w) X.A X.env xe → DSs (X.tr pn xe) g E' F0 H0 body mb)
    (hsu : ∀ (a : Addr) (oe : Obj) (pn : List (Addr × Obj)), Takes (L2H.suiteX X a ((a, oe) :: pn)) (fun cls d σ H => E σ cls d H) → L2H.HotC (L2H.suiteX X a ((a, oe) :: pn)) → DSs (L2H.suiteX X a ((a, oe) :: pn)) g E F0 H0 [b₀] ms)
    (hs : X.stack = X.env :: X.outer := by rfl) (hf : X.env.frame = some X.env.locals := by rfl) :
    DS X g E F0 H0 (.Try body [.ExceptHandler (some t) none [b₀] hp] [] [] pos) (sTryS L mb ms) := by
  refine ⟨_, ps_tryS hs hf tk hpa ht (tb := fun W D σ H => ∃ E' : EK, (∀ cls d σ' H', E' σ' cls d H' → W cls d σ' H') ∧ tS g F0 H0 E' mb D σ H) (ts := fun _ _ _ => tS g F0 H0 E ms) (fun W pn xe tk' po => ⟨fun pins s σ H N I ⟨E', hE, q⟩ => ?_⟩) (fun a oe cls d pn tk' hot => (hsu a oe pn tk' hot).pss), fun N σ H F S w B R h => ?_⟩
  · exact (hb pn xe E' (fun u s' xx => tk' u s' (by
      obtain ⟨a, B, sI, pins', σ', H', cls, d, e, J', nb, up, sky, na, os, ag, z⟩ := xx
      exact ⟨a, B, sI, pins', σ', H', cls, d, e, J', nb, up, sky, na, os, ag, hE _ _ _ _ z⟩)) po).pss.run pins s σ H N I q
  · have h2 := h
    unfold sTryS at h2
    cases hm : mb S w with
    | err S1 c fs w1 =>
      rw [hm] at h2
      simp only at h2
      by_cases hc : c ∈ L
      · rw [if_pos hc] at h2
        obtain ⟨C, k1, k2⟩ := M.ex c hc
        refine ⟨fun σ' cls d H' => cls = .ref C ∧ ∃ F', RelS g F0 H0 B F' w1 S1 σ' H', fun cls d σ' H' hE => ?_, F, S, w, B, R, ?_⟩
        · obtain ⟨rfl, F', R'⟩ := hE
          exact ⟨k2, fun a na => ⟨F', S1, w1, B, R', h2⟩⟩
        · rw [hm]
          intro σ' H' F' R' cl a vs n kc l r
          rw [k1] at kc; cases kc
          exact ⟨rfl, F', R'⟩
      · rw [if_neg hc] at h2; exact h2.elim
    | bad => rw [hm] at h2; exact h2.elim
    | nx S1 w1 => rw [hm] at h2; exact ⟨fun _ _ _ _ => False, fun _ _ _ _ z => z.elim, F, S, w, B, R, by rw [hm]; exact h2⟩
    | rt d w1 => rw [hm] at h2; exact ⟨fun _ _ _ _ => False, fun _ _ _ _ z => z.elim, F, S, w, B, R, by rw [hm]; exact h2⟩
    | bk S1 w1 => rw [hm] at h2; exact ⟨fun _ _ _ _ => False, fun _ _ _ _ z => z.elim, F, S, w, B, R, by rw [hm]; exact h2⟩
    | ct S1 w1 => rw [hm] at h2; exact ⟨fun _ _ _ _ => False, fun _ _ _ _ z => z.elim, F, S, w, B, R, by rw [hm]; exact h2⟩
end
section
variable {L : List Str} {mb ms : SM} {S S1 : SL} {w w1 : Bx} {c : Str} {fs : List (Str × D)} {d : D} {r : RS}
theorem x_tryS (h : mb S w = .nx S1 w1) : sTryS L mb ms S w = .nx S1 w1 := by unfold sTryS; rw [h]
theorem x_tryS_er (h : mb S w = .err S1 c fs w1) (hc : c ∈ L) (h2 : ms S1 w1 = r) : sTryS L mb ms S w = r := by unfold sTryS; rw [h]; simp only [if_pos hc]; exact h2
end
end Y
namespace Y
open PySem PySem.Spec PyProof.Rows L2
section
variable {P : Program} {w : World} {K : PySem.W.Frag} {mg : Str → Option Value} {base : Heap} {cls : CT}
theorem okG {CX : CXT} {x qual : Str} {st : Stmt} {f : Addr} {fd : FuncData} {N ps : List Str} {k : Nat} {sp : Sp} (F : Fun K x qual st f fd) (S : FnScope N ps (defScope st)) (ln : ∀ vs H Q E, sp vs H Q E → vs.length = ps.length)
    (hb : ∀ (cdv : Value), CodeIs K f cdv → ∀ (A : Around) (outer : List Env) (s : Shared) (H : Hp) (vs : List V) (Q : VK) (E : XK), Room k (A.deeper (envOfC qual (defScope st) s.heap.objs.size f cdv)) → sp vs H Q E → ∃ t, PSs (cxOf CX P w K mg base N qual (defScope st) f cdv A outer s H E) (defBody st) t ∧ t { nx := fun _ H' => Q .non H', rt := Q } (start N vs) H) :
    FnOk P w K mg base CX (k + 1) f fd ps sp := by
  obtain ⟨oc, od, kV, dc, pm, an, cv, ct, sl, rfl, lk, hcd⟩ := F.ex
  exact fn_of lk hcd S ln fun A outer s H vs Q E hr h => hb cv ⟨_, _, _, _, lk, rfl⟩ A outer s H vs Q E hr h
end
/-- where no error comes out -/
def noEr (m : List D → Bx → R D) : List D → Bx → R D := fun ds w => match m ds w with
  | .ok d w1 => .ok d w1
  | _ => .bad
theorem noEr_ok {m : List D → Bx → R D} {ds : List D} {w w1 : Bx} {d : D} (h : m ds w = .ok d w1) : noEr m ds w = .ok d w1 := by unfold noEr; rw [h]
theorem post_noEr {g : G} {F : FH} {H : Hp} {Q : VK} {E : XK} {m : List D → Bx → R D} {ds : List D} {w : Bx} (h : Post g F H Q E (noEr m ds w)) : Post g F H Q (fun _ _ _ => False) (m ds w) := by
  unfold noEr at h
  cases q : m ds w with
  | ok d w1 => rw [q] at h; exact h
  | err c fs w1 => rw [q] at h; exact h.elim
  | bad => rw [q] at h; exact h.elim
theorem passes2_no {P : Program} {w : World} {X : Cx} : Passes (L2.CX P w) X (fun _ _ _ => False) := fun _ _ _ _ _ _ _ h => by
  obtain ⟨_, _, _, _, _, _, _, _, _, _, _, _, z⟩ := h
  exact z.elim
section
variable {X : Cx} {g : G} {E : EK} {e : Expr} {es : List Expr} {pos p : Pos} {fs : AM} {x : Str} {k n : Nat} {m : List D → Bx → R D}
end
def spC (K : PySem.W.Frag) (cls : CT) (c : Str) (n : Nat) (m : List D → Bx → R D) : Sp := fun vs H Q E => ∃ (C : Addr) (us : List V), vs = .ref C :: us ∧ cls c = some C ∧ us.length = n ∧ ∃ (bx : BQ) (F : FH) (ds : List D) (w : Bx),
  Same F H ∧ BxOk ⟨K, cls, bx⟩ F w H ∧ DRs ⟨K, cls, bx⟩ F us ds ∧ Post ⟨K, cls, bx⟩ F H Q E (m ds w)
def startK (c : Str) (n : Nat) (ds : List D) : SL := some (.cls c) :: startS (n - 1) ds
def runK (c : Str) (k n : Nat) (body : SM) (ds : List D) (w : Bx) : R D := if ds.length = k then (match body (startK c n ds) w with
  | .nx _ w1 => .ok .non w1
  | .rt d w1 => .ok d w1
  | .err _ c fs w1 => .err c fs w1
  | _ => .bad) else .bad
theorem rel_startK {g : G} {F : FH} {H : Hp} {w : Bx} {vs : List V} {ds : List D} {y c : Str} {N : List Str} {C : Addr} (s : Same F H) (b : BxOk g F w H) (hc : g.cls c = some C) (r : DRs g F vs ds) : RelS g F H F F w (startK c (y :: N).length ds) (start (y :: N) (.ref C :: vs)) H := by
  have R0 := rel_start (N := N) s b r
  have e2 : start (y :: N) (.ref C :: vs) = some (.ref C) :: start N vs := by
    unfold L2.start
    simp only [List.map_cons, List.cons_append, List.length_cons]
    rw [show N.length + 1 - (vs.length + 1) = N.length - vs.length by omega]
  rw [e2]
  show RelS g F H F F w (some (.cls c) :: startS N.length ds) _ H
  refine ⟨⟨s, b, ?_, fun i x hx => ?_, fun i j d1 d2 v h1 h2 h3 h4 => ?_⟩, R0.ext, R0.fl, fun i ds1 p h1 h2 => ?_⟩
  · simp only [List.length_cons]; rw [R0.rel.len]
  · cases i with
    | zero => cases hx; exact ⟨.ref C, rfl, C, rfl, hc⟩
    | succ i => exact R0.rel.sl i x hx
  · cases i with
    | zero => cases h1
    | succ i =>
      cases j with
      | zero => cases h2
      | succ j => rw [R0.rel.inj i j d1 d2 v h1 h2 h3 h4]
  · cases i with
    | zero => cases h1
    | succ i => exact R0.fr i ds1 p h1 h2
section
variable {P : Program} {w : World} {K : PySem.W.Frag} {mg : Str → Option Value} {base : Heap} {cls : CT}
theorem fnokK_of {x qual c y : Str} {st : Stmt} {f : Addr} {fd : FuncData} {N ps : List Str} {k : Nat} {m : List D → Bx → R D} {body : SM} (F : Fun K x qual st f fd) (S : FnScope (y :: N) (y :: ps) (defScope st))
    (hbody : ∀ (cdv : Value), CodeIs K f cdv → ∀ (A : Around) (outer : List Env) (s : Shared) (H : Hp) (E : XK) (bx : BQ) (F0 : FH), Room k (A.deeper (envOfC qual (defScope st) s.heap.objs.size f cdv)) →
      DSs (cxOf (L2.CX P w) P w K mg base (y :: N) qual (defScope st) f cdv A outer s H E) ⟨K, cls, bx⟩ (kE E) F0 H (defBody st) body)
    (hm : ∀ ds w, m ds w ≠ .bad → runK c ps.length (y :: N).length body ds w = m ds w) : FnOk P w K mg base (L2.CX P w) (k + 1) f fd (y :: ps) (spC K cls c ps.length m) := by
  refine okG F S (fun vs H Q E h => by obtain ⟨C, us, rfl, _, hl, _⟩ := h; rw [List.length_cons, hl]; rfl) (fun cdv hcv A outer s H vs Q E hr h => ?_)
  obtain ⟨C, us, rfl, hc, hl, bx, F0, ds, w0, s1, b1, rd, hp⟩ := h
  obtain ⟨t, pt, rt⟩ := (hbody cdv hcv A outer s H E bx F0 hr).run
  refine ⟨t, pt, rt _ (start (y :: N) (.ref C :: us)) H F0 (startK c (y :: N).length ds) w0 F0 (rel_startK s1 b1 hc rd) ?_⟩
  have e := hm ds w0 fun e => by rw [e] at hp; exact hp
  rw [← e] at hp
  unfold runK at hp
  rw [if_pos (by rw [← rd.length]; exact hl)] at hp
  cases hbd : body (startK c (y :: N).length ds) w0 with
  | nx S1 w1 => simp only [hbd] at hp; exact fun σ' H' F' R' => hp .non H' F' R'.ext .non
  | rt d w1 => simp only [hbd] at hp; exact hp
  | bk S1 w1 => simp only [hbd] at hp; exact hp.elim
  | ct S1 w1 => simp only [hbd] at hp; exact hp.elim
  | err S1 c fs w1 => simp only [hbd] at hp; exact fun σ' H' F' R' cl a vs n k l r => hp cl a vs H' F' R'.ext n k l r
  | bad => simp only [hbd] at hp; exact hp
end
structure CmtK (P : Program) (w : World) (K : PySem.W.Frag) (mg : Str → Option Value) (base : Heap) (cls : CT) (c m : Str) (k n : Nat) (mm : List D → Bx → R D) : Prop where
  ex : ∃ (C p f : Addr) (mc : Value) (fd : FuncData) (ps : List Str), mg c = some (.ref C) ∧ cls c = some C ∧ ClX.CRead K C mc ∧ ClX.CMet K C mc m p f ∧ FnOk P w K mg base (L2.CX P w) k f fd ps (spC K cls c n mm) ∧ Binds K fd ps []
def CmtF (K : PySem.W.Frag) (mg : Str → Option Value) (c m qual : Str) (st : Stmt) (ps : List Str) : Prop := ∃ C p f mc fd, mg c = some (.ref C) ∧ ClX.CRead K C mc ∧ ClX.CMet K C mc m p f ∧ Fun K m qual st f fd ∧ Binds K fd ps []
section
variable {X : Cx} {g : G} {E : EK} {e : Expr} {es : List Expr} {pos p apos : Pos} {fs : AM} {c m x : Str} {k n : Nat} {mm : List D → Bx → R D}
theorem cmeth_pe {E : XK} {C p' f : Addr} {mc : Value} {fd : FuncData} {ps : List Str} {sp : Sp} {t : TA} (hm : X.mg c = some (.ref C)) (cr : ClX.CRead X.K C mc) (cm : ClX.CMet X.K C mc m p' f) (F : FnOk X.prog X.w X.K X.mg X.base (L2.CX X.prog X.w) k f fd ps sp) (hb : Binds X.K fd ps []) (hr : Room k X.A) (hx : Passes (L2.CX X.prog X.w) X E) (pt : PA X (e :: es) t) (hg : Gl X c) (hdb : (c == ("__debug__" : Str)) = false)
    (hst : starEach (e :: es) X.env = (false, eval e X.env) :: starEach es X.env) (hpl : (backTo pos (starEach es X.env)).any (·.1) = false) {pl : Sem Bool}
    (ht : eval (.Call (.Attribute (.Name c p) m apos) (e :: es) [] pos) X.env = (do
      let ov ← eval (.Name c p) X.env
      standAt apos.atName
      let (f, first) ← holding [ov] (getMethod ov m pl)
      callWith pos f first (backTo pos (starEach (e :: es) X.env)) (backToKw pos (keywordEach [] X.env)))) :
    PE X (.Call (.Attribute (.Name c p) m apos) (e :: es) [] pos) (ClX.tCMeth C sp E (tC (.ref C)) t) :=
  ClX.pe_cmeth (pe_glob hg hm (v := .ref C) rfl hdb) cr cm ((F.raw hb .nil).imp fun vs H Q E h => by rw [List.append_nil]; exact h) hr hx pt hst hpl ht
theorem de_cmeth {E : XK} (hK : g.K = X.K) (M : CmtK X.prog X.w X.K X.mg X.base g.cls c m k n mm) (hr : Room k X.A) (hx : Passes (L2.CX X.prog X.w) X E) (ha : DA X g (kE E) (e :: es) fs) (hg : Gl X c := by rfl) (hdb : (c == ("__debug__" : Str)) = false := by decide)
    (hq : ∀ (C p' f : Addr) (mc : Value) (fd : FuncData) (ps : List Str) (sp : Sp) (t : TA), X.mg c = some (.ref C) → ClX.CRead X.K C mc → ClX.CMet X.K C mc m p' f → FnOk X.prog X.w X.K X.mg X.base (L2.CX X.prog X.w) k f fd ps sp → Binds X.K fd ps [] → Room k X.A → Passes (L2.CX X.prog X.w) X E → PA X (e :: es) t → Gl X c → (c == ("__debug__" : Str)) = false → PE X (.Call (.Attribute (.Name c p) m apos) (e :: es) [] pos) (ClX.tCMeth C sp E (tC (.ref C)) t) := by exact fun _ _ _ _ _ _ _ _ h1 h2 h3 h4 h5 h6 h7 h8 h9 h10 => cmeth_pe h1 h2 h3 h4 h5 h6 h7 h8 h9 h10 rfl rfl rfl) :
    DE X g (kE E) (.Call (.Attribute (.Name c p) m apos) (e :: es) [] pos) (eCall n mm fs) := by
  obtain ⟨C, p', f, mc, fd, ps, hm, hc, cr, cm, F, hb⟩ := M.ex
  obtain ⟨t, pt, rt⟩ := ha.run
  refine ⟨_, hq C p' f mc fd ps _ t hm cr cm F hb hr hx pt hg hdb, fun σ H Q F S w R h => ⟨rfl, ?_⟩⟩
  refine rt σ H _ F S w R (PostG.imp (PostG.bind h) fun ds w1 _ h1 vs H1 F1 x1 r1 => ?_)
  by_cases hl : ds.length = n
  · rw [if_pos hl] at h1
    rw [← hK]
    exact ⟨C, vs, rfl, hc, by rw [r1.length]; exact hl, g.bq, F1, ds, w1, x1.sub, x1.bx, r1, Post.of x1 h1⟩
  · rw [if_neg hl] at h1; exact h1.elim
theorem de_cmethN (hK : g.K = X.K) (M : CmtK X.prog X.w X.K X.mg X.base g.cls c m k n mm) (hr : Room k X.A) (ha : DA X g E (e :: es) fs) (hg : Gl X c := by rfl) (hdb : (c == ("__debug__" : Str)) = false := by decide)
    (hq : ∀ (C p' f : Addr) (mc : Value) (fd : FuncData) (ps : List Str) (sp : Sp) (t : TA), X.mg c = some (.ref C) → ClX.CRead X.K C mc → ClX.CMet X.K C mc m p' f → FnOk X.prog X.w X.K X.mg X.base (L2.CX X.prog X.w) k f fd ps sp → Binds X.K fd ps [] → Room k X.A → Passes (L2.CX X.prog X.w) X (fun _ _ _ => False) → PA X (e :: es) t → Gl X c → (c == ("__debug__" : Str)) = false → PE X (.Call (.Attribute (.Name c p) m apos) (e :: es) [] pos) (ClX.tCMeth C sp (fun _ _ _ => False) (tC (.ref C)) t) := by exact fun _ _ _ _ _ _ _ _ h1 h2 h3 h4 h5 h6 h7 h8 h9 h10 => cmeth_pe h1 h2 h3 h4 h5 h6 h7 h8 h9 h10 rfl rfl rfl) :
    DE X g E (.Call (.Attribute (.Name c p) m apos) (e :: es) [] pos) (eCall n (noEr mm) fs) := by
  obtain ⟨C, p', f, mc, fd, ps, hm, hc, cr, cm, F, hb⟩ := M.ex
  obtain ⟨t, pt, rt⟩ := ha.run
  refine ⟨_, hq C p' f mc fd ps _ t hm cr cm F hb hr passes2_no pt hg hdb, fun σ H Q F S w R h => ⟨rfl, ?_⟩⟩
  refine rt σ H _ F S w R (PostG.imp (PostG.bind h) fun ds w1 _ h1 vs H1 F1 x1 r1 => ?_)
  by_cases hl : ds.length = n
  · rw [if_pos hl] at h1
    rw [← hK]
    exact ⟨C, vs, rfl, hc, by rw [r1.length]; exact hl, g.bq, F1, ds, w1, x1.sub, x1.bx, r1, Post.of x1 (post_noEr h1)⟩
  · rw [if_neg hl] at h1; exact h1.elim
def eMakeLS (i : Nat) (c : Str) (n : Nat → Bool) (m : List D → Bx → R (List (Str × D))) (fs : AM) : EM := fun S w => match S[i]? with
  | some (some (.cls c')) => if c' = c then eMake c n m fs S w else .bad
  | _ => .bad
theorem pe_makeLS {i : Nat} {E : XK} {CX : CXT} {C f : Addr} {sp : Sp} {te : TE} {sp_ : Pos} (M : Mk X.K C f) (F : FnR X.prog X.w X.K X.mg X.base CX k f sp) (hr : Room (k + 1) X.A) (hN : X.N[i]? = some x) (hv : Vis X.env.scope x) (hx : Passes CX X E) (he : PE X e te) (hdb : (x == ("__debug__" : Str)) = false) (hcd : (x == ("__classdict__" : Str)) = false)
    (hst : starEach [.Starred e sp_] X.env = [(true, eval e X.env)]) : PE X (.Call (.Name x p) [.Starred e sp_] [] pos) (fun σ H Q => σ[i]? = some (some (.ref C)) ∧ StX.tMakeR C sp E (tStar1 X.K te) σ H Q) := by
  refine ⟨fun pins s σ H Q I ⟨h0, h⟩ => ?_⟩
  refine wpAny_Call_Name_kw (thn ((pe_var hN hv hdb hcd).run pins s σ H (fun v H' => v = .ref C ∧ H' = H) I ⟨.ref C, h0, rfl, rfl⟩) fun u s1 ⟨v, H1, I1, ru, ev, eH⟩ => ?_)
  subst ev
  subst eH
  obtain rfl : u = Value.ref C := ru
  refine PySem.W.callWith_S (h₀ := X.base) I.ok.mod.kin M.kp (thn (he.run pins s1 σ H1 _ I1 h) fun v s2 ⟨y, H2, I2, ry, a, xs, ey, hxs, q⟩ => ?_) hst
  subst ey
  obtain rfl : v = Value.ref a := ry
  exact StX.star_any I2 hxs fun us s3 I3 rv => ⟨I3.kIn, StX.run_makeR M F hr hx I3 rv q⟩
theorem de_makeLS (i : Nat) {E : XK} {sp_ : Pos} {fa : EM} {nn : Nat → Bool} {mi : List D → Bx → R (List (Str × D))} (hK : g.K = X.K) (M : IniK X.prog X.w X.K X.mg X.base g.cls c k nn mi) (hr : Room (k + 1) X.A) (hx : Passes (L2N.CX X.prog X.w) X E) (ha : DE X g (kE E) e fa) (hN : X.N[i]? = some x := by rfl)
    (hv : Vis X.env.scope x := by first | exact Or.inl rfl | exact Or.inr (Or.inl rfl) | exact Or.inr (Or.inr rfl)) (hdb : (x == ("__debug__" : Str)) = false := by decide) (hcd : (x == ("__classdict__" : Str)) = false := by decide)
    (hst : starEach [.Starred e sp_] X.env = [(true, eval e X.env)] := by rfl) : DE X g (kE E) (.Call (.Name x p) [.Starred e sp_] [] pos) (eMakeLS i c nn mi (aStar fa)) := by
  obtain ⟨C, f, hmg, hc, Mk, FF⟩ := M.ex
  obtain ⟨ta, pa, ra⟩ := ha.run
  refine ⟨_, pe_makeLS Mk FF hr hN hv hx pa hdb hcd hst, fun σ H Q F S w R h => ?_⟩
  unfold eMakeLS at h
  split at h
  · rename_i c' hi
    by_cases e0 : c' = c
    · subst e0
      rw [if_pos rfl] at h
      obtain ⟨v, e1, C', e2, e3⟩ := R.sl i _ hi
      obtain rfl : C' = C := Option.some.inj (e3.symm.trans hc)
      subst e2
      refine ⟨e1, make_run hK hc (fun σ H Q F S w R h => ?_) σ H Q F S w R h⟩
      refine ra σ H _ F S w R (PostG.imp (PostG.bind h) fun d w1 hd h1 v H1 F1 x1 r1 => ?_)
      clear hd
      obtain ⟨z, hz, q⟩ := post_ofO' h1
      rw [← hK]
      cases r1 with
      | lst h r => cases hz; exact ⟨_, _, rfl, .inr (.inl (.inl (x1.sub _ _ h))), q _ _ _ x1 r⟩
      | tup h r => cases hz; exact ⟨_, _, rfl, .inl (same_T x1.sub h), q _ _ _ x1 r⟩
      | _ => cases hz
    · rw [if_neg e0] at h; exact h.elim
  · exact h.elim
theorem x_makeLS {i : Nat} {nn : Nat → Bool} {mi : List D → Bx → R (List (Str × D))} {S : SL} {w : Bx} {r : R D} (h0 : S[i]? = some (some (.cls c))) (h : eMake c nn mi fs S w = r) : eMakeLS i c nn mi fs S w = r := by
  unfold eMakeLS; simp only [h0, if_true]; exact h
theorem x_runK {nk l : Nat} {body : SM} {ds : List D} {w w1 : Bx} {d : D} (hl : ds.length = nk) (h : body (startK c l ds) w = .rt d w1) : runK c nk l body ds w = .ok d w1 := by unfold runK; rw [if_pos hl, h]
theorem x_runKE {nk l : Nat} {body : SM} {ds : List D} {w w1 : Bx} {S1 : SL} {c2 : Str} {fs2 : List (Str × D)} (hl : ds.length = nk) (h : body (startK c l ds) w = .err S1 c2 fs2 w1) : runK c nk l body ds w = .err c2 fs2 w1 := by unfold runK; rw [if_pos hl, h]
end
section
variable {X : Cx} {g : G} {E : EK} {F0 : FH} {H0 : Hp} {body : List Stmt} {b₀ : Stmt} {mb ms : SM} {x : Str} {es : List Expr} {xs L : List Str} {k : Nat} {pos hp np tpos : Pos}
theorem ds_try1 (hK : g.K = X.K) (M : TryN X.K X.mg g.cls [x] L) (tk : Takes X (fun cls d σ H => E σ cls d H)) (hpa : ∀ hd : Option Value, PassesOwnAt (model X.prog X.w) (X.A.mark hd) X.A X.env X.xe)
    (hb : ∀ (pn : List (Addr × Obj)) (xe : Value → Shared → Prop) (E' : EK), L2N.Takes (X.tr pn xe) (fun cls d σ H => E' σ cls d H) → PassesOwn (model X.prog X.w) X.A X.env xe → DSs (X.tr pn xe) g E' F0 H0 body mb)
    (hsu : ∀ (a : Addr) (oe : Obj) (pn : List (Addr × Obj)), Takes (L2H.suiteX X a ((a, oe) :: pn)) (fun cls d σ H => E σ cls d H) → L2H.HotC (L2H.suiteX X a ((a, oe) :: pn)) → DSs (L2H.suiteX X a ((a, oe) :: pn)) g E F0 H0 [b₀] ms)
    (hg : Gl X x := by rfl) (hd : (x == ("__debug__" : Str)) = false := by decide) (hs : X.stack = X.env :: X.outer := by rfl) (hf : X.env.frame = some X.env.locals := by rfl) :
    DS X g E F0 H0 (.Try body [.ExceptHandler (some (.Name x np)) none [b₀] hp] [] [] pos) (sTryS L mb ms) := by
  obtain ⟨cs, h1, hT⟩ := M
  cases h1 with
  | cons h r =>
    cases r
    exact ds_tryS hK (test_one hg h hd) hT tk hpa hb hsu hs hf
end
end Y
namespace Y
open PySem PySem.Spec PyProof.Rows L2
open PySem.StrLaws PySem.Builtin PySem.Builtin.Str
/-- p, whatever stands behind sep, has no sep that begins in it -/
def Clean (sep p : List Nat) : Prop := ∀ (k : Nat) (r : List Nat), k < p.length → ¬ sep <+: (p ++ sep ++ r).drop k
theorem at_pre {x sep : Str} {k : Nat} (h : At x sep x.length k) : sep.cps.toList <+: x.cps.toList.drop k := by
  have h2 := h.2
  rw [subAt_eq] at h2
  rw [← eq_of_beq h2]
  exact List.take_prefix _ _
theorem pre_at {x sep : Str} {k : Nat} (hk : k ≤ x.length) (h : sep.cps.toList <+: x.cps.toList.drop k) : At x sep x.length k := by
  have hl := h.length_le
  rw [List.length_drop] at hl
  have e1 : x.cps.toList.length = x.length := by simp [Str.length]
  have e2 : sep.cps.toList.length = sep.length := by simp [Str.length]
  refine ⟨by omega, ?_⟩
  rw [subAt_eq]
  obtain ⟨r, hr⟩ := h
  rw [← hr, ← e2, List.take_left]
  exact beq_self_eq_true _
/-- the parts with their separators, in a row -/
def flatJ (sep : List Nat) : List (List Nat) → List Nat
  | [] => []
  | [p] => p
  | p :: q :: r => p ++ sep ++ flatJ sep (q :: r)
theorem join_flat (sep : Str) : ∀ ps : List Str, (Str.join sep ps).cps.toList = flatJ sep.cps.toList (ps.map fun p => p.cps.toList)
  | [] => rfl
  | [p] => rfl
  | p :: q :: r => by
    show (p ++ sep ++ Str.join sep (q :: r)).cps.toList = _
    rw [Str.cps_append, Str.cps_append, Array.toList_append, Array.toList_append, join_flat sep (q :: r)]
    rfl
theorem pre_app {a b c : List Nat} (h : a <+: b) : a <+: b ++ c := h.trans (List.prefix_append b c)
theorem clean_no {sep p : List Nat} (hs : 1 ≤ sep.length) (h : Clean sep p) (k : Nat) : ¬ sep <+: p.drop k := fun hp => by
  by_cases hk : k < p.length
  · refine h k [] hk ?_
    rw [List.append_assoc, List.drop_append_of_le_length (Nat.le_of_lt hk)]
    exact pre_app hp
  · rw [List.drop_eq_nil_of_le (by omega)] at hp
    have := hp.length_le
    rw [List.length_nil] at this
    omega
theorem parts_of {x sep : Str} (hs : 1 ≤ sep.length) : ∀ (ps : List Str) (a : Nat) (cuts : List Nat) (f : Nat), ps ≠ [] → (∀ p ∈ ps, Clean sep.cps.toList p.cps.toList) → a ≤ x.length → x.cps.toList.drop a = flatJ sep.cps.toList (ps.map fun p => p.cps.toList) →
    ChainG x sep x.length a cuts f → (∀ k, f ≤ k → ¬ At x sep x.length k) → partsFrom x sep.length a cuts = ps
  | [], a, cuts, f, hne, _, _, _, _, _ => absurd rfl hne
  | [p], a, cuts, f, _, hc, ha, hd, hG, hn => by
    have e1 : x.cps.toList.length = x.length := by simp [Str.length]
    have e2 : sep.cps.toList.length = sep.length := by simp [Str.length]
    have hp := hc p (List.mem_singleton.mpr rfl)
    have no : ∀ k, a ≤ k → ¬ At x sep x.length k := fun k hk hA => by
      have := at_pre hA
      rw [show k = a + (k - a) by omega, ← List.drop_drop, hd] at this
      exact clean_no (by omega) hp _ this
    cases cuts with
    | nil =>
      show [strSub x a x.length] = [p]
      congr 1
      apply Str.ext'
      apply Array.toList_inj.mp
      rw [strSub_toList, hd]
      exact List.take_of_length_le (by rw [← hd, List.length_drop]; omega)
    | cons c r => exact absurd hG.2.1 (no c hG.1)
  | p :: q :: r, a, cuts, f, _, hc, ha, hd, hG, hn => by
    have e1 : x.cps.toList.length = x.length := by simp [Str.length]
    have e2 : sep.cps.toList.length = sep.length := by simp [Str.length]
    have hp := hc p List.mem_cons_self
    have hd2 : x.cps.toList.drop a = p.cps.toList ++ sep.cps.toList ++ flatJ sep.cps.toList ((q :: r).map fun p => p.cps.toList) := hd
    have hlen : p.cps.toList.length + sep.length ≤ x.length - a := by
      have := congrArg List.length hd2
      rw [List.length_drop, List.length_append, List.length_append] at this
      omega
    have hit : At x sep x.length (a + p.cps.toList.length) := by
      refine pre_at (by omega) ?_
      rw [← List.drop_drop, hd2, List.append_assoc, List.drop_left]
      exact List.prefix_append _ _
    have before : ∀ k, a ≤ k → k < a + p.cps.toList.length → ¬ At x sep x.length k := fun k h1 h2 hA => by
      have := at_pre hA
      rw [show k = a + (k - a) by omega, ← List.drop_drop, hd2] at this
      exact hp (k - a) _ (by omega) this
    cases cuts with
    | nil =>
      have ef : f = a := hG
      exact absurd hit (hn _ (by omega))
    | cons c cr =>
      obtain ⟨g1, g2, g3, g4⟩ := hG
      have ec : c = a + p.cps.toList.length := by
        rcases Nat.lt_trichotomy c (a + p.cps.toList.length) with h | h | h
        · exact absurd g2 (before c g1 h)
        · exact h
        · exact absurd hit (g3 _ (by omega) h)
      subst ec
      show strSub x a (a + p.cps.toList.length) :: partsFrom x sep.length (a + p.cps.toList.length + sep.length) cr = p :: q :: r
      congr 1
      · apply Str.ext'
        apply Array.toList_inj.mp
        rw [strSub_toList, hd2, show a + p.cps.toList.length - a = p.cps.toList.length by omega, List.append_assoc, List.take_left]
      · refine parts_of hs (q :: r) _ cr f (List.cons_ne_nil _ _) (fun z hz => hc z (List.mem_cons_of_mem _ hz)) (by omega) ?_ g4 hn
        rw [show a + p.cps.toList.length + sep.length = a + (p.cps.toList ++ sep.cps.toList).length by rw [List.length_append]; omega, ← List.drop_drop, hd2, List.drop_left]
/-- what was joined is split into the same parts -/
theorem split_join {sep : Str} (hk : strKind sep = 1) (hs : 1 ≤ sep.length) {ps : List Str} (hne : ps ≠ []) (hc : ∀ p ∈ ps, Clean sep.cps.toList p.cps.toList) : Txt.split (Txt.join sep ps) sep = ps := by
  have ej : Txt.join sep ps = Str.join sep ps := glued_eq_join sep ps
  rw [ej]
  have hf := join_flat sep ps
  generalize Str.join sep ps = x at hf
  have e1 : x.cps.toList.length = x.length := by simp [Str.length]
  have e2 : sep.cps.toList.length = sep.length := by simp [Str.length]
  obtain ⟨f, hG, hn⟩ := occ_tight x sep hs
  have key := parts_of hs ps 0 _ f hne hc (Nat.zero_le _) (by rw [List.drop_zero]; exact hf) hG hn
  unfold Txt.split
  split
  · rename_i hh
    rw [Bool.or_eq_true, decide_eq_true_eq, decide_eq_true_eq] at hh
    have hlt : x.length < sep.length := by
      rcases hh with h | h
      · exact h
      · have := strKind_pos x; omega
    match ps, hne, hf with
    | [p], _, hf =>
      have : x = p := by
        apply Str.ext'
        apply Array.toList_inj.mp
        exact hf
      rw [this]
    | p :: q :: r, _, hf =>
      exfalso
      have := congrArg List.length hf
      simp only [List.map_cons, flatJ, List.length_append] at this
      omega
  · split
    · rename_i h0
      rw [List.isEmpty_iff.mp h0] at key
      have k2 : [strSub x 0 x.length] = ps := key
      rw [sub_whole] at k2
      exact k2
    · rw [partsBetween_eq]; exact key
def noPair (a b : Nat) : List Nat → Bool
  | x :: y :: r => !(decide (x = a) && decide (y = b)) && noPair a b (y :: r)
  | _ => true
theorem noPair_drop {a b : Nat} : ∀ (l : List Nat) (k : Nat), noPair a b l = true → noPair a b (l.drop k) = true
  | l, 0, h => by rw [List.drop_zero]; exact h
  | [], k + 1, h => by rw [List.drop_nil]; rfl
  | [x], k + 1, h => by rw [List.drop_succ_cons, List.drop_nil]; rfl
  | x :: y :: r, k + 1, h => by
    rw [List.drop_succ_cons]
    unfold noPair at h
    rw [Bool.and_eq_true] at h
    exact noPair_drop (y :: r) k h.2
theorem clean_pair {a b : Nat} (hab : a ≠ b) {l : List Nat} (h : noPair a b l = true) : Clean [a, b] l := fun k r hk hp => by
  obtain ⟨z, hz⟩ := hp
  have e : (l ++ [a, b] ++ r).drop k = l.drop k ++ ([a, b] ++ r) := by rw [List.append_assoc, List.drop_append_of_le_length (Nat.le_of_lt hk)]
  rw [e] at hz
  have hd := noPair_drop l k h
  cases q : l.drop k with
  | nil =>
    have := congrArg List.length q
    rw [List.length_drop] at this
    simp at this
    omega
  | cons x t =>
    rw [q] at hz hd
    cases t with
    | nil =>
      simp only [List.cons_append, List.nil_append, List.cons.injEq] at hz
      exact hab hz.2.1.symm
    | cons y t =>
      simp only [List.cons_append, List.nil_append, List.cons.injEq] at hz
      unfold noPair at hd
      rw [← hz.1, ← hz.2.1, decide_eq_true rfl, decide_eq_true rfl] at hd
      simp at hd
end Y
local macro_rules | `(tactic| walk_at "y_leaf") => `(tactic| first
    | ((with_reducible show _ = _); (with_reducible assumption))
    | ((first | with_reducible refine Y.st_eq ?_ | with_reducible refine Y.st_ne ?_ | with_reducible refine Y.st_in ?_ | with_reducible refine Y.st_nin ?_ | with_reducible refine Y.st_tab ?_ | with_reducible refine Y.st_tabD ?_) <;> (first | exact ⟨Y.of_isT (by decide +kernel)⟩ | exact ⟨Y.of_isF (by decide +kernel)⟩ | skip))
    | ((first | with_reducible refine Y.tqO ?_ | with_reducible refine Y.tqN ?_ | with_reducible refine Y.tqB ?_ | with_reducible refine Y.tqD ?_ | with_reducible refine Y.tqL ?_) <;> rfl))
local macro_rules | `(tactic| walk_at "y_ev") => `(tactic| repeat' (first
    | with_reducible exact Y.x_nil
    | with_reducible exact Y.x_C
    | with_reducible exact Y.x_pN
    | with_reducible exact Y.x_skip
    | (((with_reducible apply Y.x_var)) <;> rfl)
    | (with_reducible apply Y.x_cons)
    | (with_reducible apply Y.x_tOf)
    | (with_reducible apply Y.x_bin)
    | (with_reducible apply Y.x_e1)
    | (with_reducible apply Y.x_B)
    | ((with_reducible apply Y.x_tupZ); (· walk_at "y_ev"); (· exact Y.lsz rfl); (· rfl))
    | ((with_reducible apply Y.x_lst); (· walk_at "y_ev"); (· exact Y.lsz rfl))
    | (with_reducible apply Y.x_frz)
    | (with_reducible apply Y.x_dget2)
    | (with_reducible apply Y.x_sl)
    | (with_reducible apply Y.x_pSome)
    | ((with_reducible apply Y.x_call); (· walk_at "y_ev"); (· rfl))
    | (with_reducible apply Y.x_ret)
    | (with_reducible apply Y.x_set)
    | (with_reducible apply Y.x_par)
    | (with_reducible apply Y.x_par3)
    | ((with_reducible apply Y.x_seqR); (with_reducible apply Y.x_ifT); (· (walk_at "y_ev"; done)); (with_reducible apply Y.x_ret))
    | (with_reducible apply Y.x_seq)
    | ((with_reducible apply Y.x_ifT); (· (walk_at "y_ev"; done)))
    | ((with_reducible apply Y.x_ifF); (· (walk_at "y_ev"; done)))
    | ((with_reducible apply Y.x_eifT); (· (walk_at "y_ev"; done)))
    | ((with_reducible apply Y.x_eifF); (· (walk_at "y_ev"; done)))
    | ((with_reducible apply Y.x_notT); (· (walk_at "y_ev"; done)))
    | ((with_reducible apply Y.x_notF); (· (walk_at "y_ev"; done)))
    | ((with_reducible apply Y.x_orT); (· (walk_at "y_ev"; done)))
    | ((with_reducible apply Y.x_orF); (· (walk_at "y_ev"; done)))
    | ((with_reducible apply Y.x_andF); (· (walk_at "y_ev"; done)))
    | ((with_reducible apply Y.x_andT); (· (walk_at "y_ev"; done)))
    | ((with_reducible apply Y.x_enotT); (· (walk_at "y_ev"; done)))
    | ((with_reducible apply Y.x_enotF); (· (walk_at "y_ev"; done)))
    | ((with_reducible apply Y.x_eorT); (· (walk_at "y_ev"; done)))
    | ((with_reducible apply Y.x_eorF); (· (walk_at "y_ev"; done)))
    | ((with_reducible apply Y.x_eandF); (· (walk_at "y_ev"; done)))
    | ((with_reducible apply Y.x_eandT); (· (walk_at "y_ev"; done)))
    | walk_at "y_leaf"))
namespace Z
open PySem PySem.Spec PyProof.Rows L2 Y
theorem sc_L_open : FnScope ["_law_script_here", "_law_cells", "_law_mark", "_law_cell"] ["_law_script_here"] (defScope s_L_open) := ⟨rfl, rfl, rfl, by decide +kernel, rfl, by decide +kernel, by decide +kernel⟩
theorem sc_ParseError___init__ : FnScope ["self", "at"] ["self", "at"] (defScope s_ParseError___init__) := ⟨rfl, rfl, rfl, by decide +kernel, rfl, by decide +kernel, by decide +kernel⟩
theorem sc_InvalidEdit___init__ : FnScope ["self", "at"] ["self", "at"] (defScope s_InvalidEdit___init__) := ⟨rfl, rfl, rfl, by decide +kernel, rfl, by decide +kernel, by decide +kernel⟩
theorem sc_TooLong___init__ : FnScope ["self", "most"] ["self", "most"] (defScope s_TooLong___init__) := ⟨rfl, rfl, rfl, by decide +kernel, rfl, by decide +kernel, by decide +kernel⟩
theorem sc_L_refused : FnScope ["_law_ask", "_law_told", "e"] ["_law_ask"] (defScope s_L_refused) := ⟨rfl, rfl, rfl, by decide +kernel, rfl, by decide +kernel, by decide +kernel⟩
theorem sc_format_edit : FnScope ["edit", "words", "one"] ["edit"] (defScope s_format_edit) := ⟨rfl, rfl, rfl, by decide +kernel, rfl, by decide +kernel, by decide +kernel⟩
theorem sc_places : FnScope ["symbol", "number", "end"] [] (defScope s_places) := ⟨rfl, rfl, rfl, by decide +kernel, rfl, by decide +kernel, by decide +kernel⟩
theorem sc_shelf : FnScope ["found", "word", "symbol", "place"] [] (defScope s_shelf) := ⟨rfl, rfl, rfl, by decide +kernel, rfl, by decide +kernel, by decide +kernel⟩
theorem sc_L_spelled : FnScope ["_law_edit_here", "_law_words", "_law_one"] ["_law_edit_here"] (defScope s_L_spelled) := ⟨rfl, rfl, rfl, by decide +kernel, rfl, by decide +kernel, by decide +kernel⟩
theorem sc_Script___len__ : FnScope ["self"] ["self"] (defScope s_Script___len__) := ⟨rfl, rfl, rfl, by decide +kernel, rfl, by decide +kernel, by decide +kernel⟩
theorem sc_Script_edits : FnScope ["self"] ["self"] (defScope s_Script_edits) := ⟨rfl, rfl, rfl, by decide +kernel, rfl, by decide +kernel, by decide +kernel⟩
theorem sc_is_symbol : FnScope ["thing"] ["thing"] (defScope s_is_symbol) := ⟨rfl, rfl, rfl, by decide +kernel, rfl, by decide +kernel, by decide +kernel⟩
theorem sc_is_place : FnScope ["thing", "symbol", "number", "end"] ["thing"] (defScope s_is_place) := ⟨rfl, rfl, rfl, by decide +kernel, rfl, by decide +kernel, by decide +kernel⟩
theorem sc_is_edit : FnScope ["thing", "word"] ["thing"] (defScope s_is_edit) := ⟨rfl, rfl, rfl, by decide +kernel, rfl, by decide +kernel, by decide +kernel⟩
theorem sc_Script___init__ : FnScope ["self", "edits", "at", "edit"] ["self", "edits"] (defScope s_Script___init__) := ⟨rfl, rfl, rfl, by decide +kernel, rfl, by decide +kernel, by decide +kernel⟩
theorem sc_parse_edit : FnScope ["text", "edit"] ["text"] (defScope s_parse_edit) := ⟨rfl, rfl, rfl, by decide +kernel, rfl, by decide +kernel, by decide +kernel⟩
theorem sc_Script_read : FnScope ["cls", "text", "edits", "parts", "at", "part"] ["cls", "text"] (defScope s_Script_read) := ⟨rfl, rfl, rfl, by decide +kernel, rfl, by decide +kernel, by decide +kernel⟩
theorem sc_Script_text : FnScope ["self", "edit"] ["self"] (defScope s_Script_text) := ⟨rfl, rfl, rfl, by decide +kernel, rfl, by decide +kernel, by decide +kernel⟩
theorem sc_L_draw : FnScope ["_law_box", "_law_many", "_law_cell", "_law_found"] ["_law_box", "_law_many"] (defScope s_L_draw) := ⟨rfl, rfl, rfl, by decide +kernel, rfl, by decide +kernel, by decide +kernel⟩
theorem sc_L_any : FnScope ["_law_box", "_law_things"] ["_law_box", "_law_things"] (defScope s_L_any) := ⟨rfl, rfl, rfl, by decide +kernel, rfl, by decide +kernel, by decide +kernel⟩
theorem sc_L_place : FnScope ["_law_box"] ["_law_box"] (defScope s_L_place) := ⟨rfl, rfl, rfl, by decide +kernel, rfl, by decide +kernel, by decide +kernel⟩
theorem sc_L_edit : FnScope ["_law_box", "_law_word", "_law_spot"] ["_law_box"] (defScope s_L_edit) := ⟨rfl, rfl, rfl, by decide +kernel, rfl, by decide +kernel, by decide +kernel⟩
theorem sc_L_edits : FnScope ["_law_box", "_law_most", "_law_k"] ["_law_box", "_law_most"] (defScope s_L_edits) := ⟨rfl, rfl, rfl, by decide +kernel, rfl, by decide +kernel, by decide +kernel⟩
theorem sc_L_whole : FnScope ["_law_found"] ["_law_found"] (defScope s_L_whole) := ⟨rfl, rfl, rfl, by decide +kernel, rfl, by decide +kernel, by decide +kernel⟩
theorem sc_L_same : FnScope ["_law_found", "_law_due", "_law_one", "_law_other"] ["_law_found", "_law_due"] (defScope s_L_same) := ⟨rfl, rfl, rfl, by decide +kernel, rfl, by decide +kernel, by decide +kernel⟩
theorem sc_Script___add__ : FnScope ["self", "other", "edits"] ["self", "other"] (defScope s_Script___add__) := ⟨rfl, rfl, rfl, by decide +kernel, rfl, by decide +kernel, by decide +kernel⟩
theorem sc_L_script : FnScope ["_law_edits_here", "_law_found", "_law_each"] ["_law_edits_here"] (defScope s_L_script) := ⟨rfl, rfl, rfl, by decide +kernel, rfl, by decide +kernel, by decide +kernel⟩
theorem sc_L_spelled_all : FnScope ["_law_edits_here", "_law_edit_here"] ["_law_edits_here"] (defScope s_L_spelled_all) := ⟨rfl, rfl, rfl, by decide +kernel, rfl, by decide +kernel, by decide +kernel⟩
theorem sc_law : FnScope ["_law_script_here", "_law_box", "_law_turn", "_law_some", "_law_text", "_law_made", "_law_parts", "_law_at", "_law_due", "_law_spoilt", "_law_k"] ["_law_script_here"] (defScope s_law) := ⟨rfl, rfl, rfl, by decide +kernel, rfl, by decide +kernel, by decide +kernel⟩
structure Top (P : Program) (w : World) (K : PySem.W.Frag) (mg : Str → Option Value) (base : Heap) (tb : List (Addr × Str)) : Prop where
  n_all : mg "all" = none
  n_bool : mg "bool" = none
  n_enumerate : mg "enumerate" = none
  n_int : mg "int" = none
  n_isinstance : mg "isinstance" = none
  n_len : mg "len" = none
  n_list : mg "list" = none
  n_range : mg "range" = none
  n_str : mg "str" = none
  n_tuple : mg "tuple" = none
  n_zip : mg "zip" = none
  g_ENDS : Glb K mg "ENDS" (.tup [(.str "front"), (.str "back")])
  g_NUMBERS : Glb K mg "NUMBERS" (.tup [(.int 1), (.int 2)])
  g_SYMBOLS : Glb K mg "SYMBOLS" (.str "ab")
  cm_Script_read : CmtF K mg "Script" "read" "Script.read" s_Script_read ["cls", "text"]
  ig_Script : IsGK K mg (clsOf mg tb) "Script" isg_Script
  mt_Script_text : MthF K mg "Script" "text" "Script.text" s_Script_text ["self"]
  mt_Script_edits : MthF K mg "Script" "edits" "Script.edits" s_Script_edits ["self"]
  ref : RefK K mg (clsOf mg tb) "_law_refused" refTbl
  mt_Script___len__ : MthF K mg "Script" "__len__" "Script.__len__" s_Script___len__ ["self"]
  fl_Script_kept : FldF K mg "Script" "kept"
  tn_ParseError : TryN K mg (clsOf mg tb) ["ParseError"] ["ParseError"]
  ex_ParseError : ExGF xbV K mg "ParseError" "at" "ParseError.__init__" s_ParseError___init__
  in_Script : IniF K mg "Script" "Script.__init__" s_Script___init__
  ex_InvalidEdit : ExGF xbV K mg "InvalidEdit" "at" "InvalidEdit.__init__" s_InvalidEdit___init__
  cs_Script_MOST : CstK K mg "Script" "MOST" (.int 4)
  ex_TooLong : ExGF xbV K mg "TooLong" "most" "TooLong.__init__" s_TooLong___init__
  op_Script___add__ : OpF K mg "Script" "__add__" "Script.__add__" s_Script___add__ ["self", "other"]
  d_L_open : Def K mg "_law_open" s_L_open ["_law_script_here"]
  d_format_edit : Def K mg "format_edit" s_format_edit ["edit"]
  d_places : Def K mg "places" s_places []
  d_shelf : Def K mg "shelf" s_shelf []
  d_L_spelled : Def K mg "_law_spelled" s_L_spelled ["_law_edit_here"]
  d_is_symbol : Def K mg "is_symbol" s_is_symbol ["thing"]
  d_is_place : Def K mg "is_place" s_is_place ["thing"]
  d_is_edit : Def K mg "is_edit" s_is_edit ["thing"]
  d_parse_edit : Def K mg "parse_edit" s_parse_edit ["text"]
  d_L_draw : Def K mg "_law_draw" s_L_draw ["_law_box", "_law_many"]
  d_L_any : Def K mg "_law_any" s_L_any ["_law_box", "_law_things"]
  d_L_place : Def K mg "_law_place" s_L_place ["_law_box"]
  d_L_edit : Def K mg "_law_edit" s_L_edit ["_law_box"]
  d_L_edits : Def K mg "_law_edits" s_L_edits ["_law_box", "_law_most"]
  d_L_whole : Def K mg "_law_whole" s_L_whole ["_law_found"]
  d_L_same : Def K mg "_law_same" s_L_same ["_law_found", "_law_due"]
  d_L_script : Def K mg "_law_script" s_L_script ["_law_edits_here"]
  d_L_spelled_all : Def K mg "_law_spelled_all" s_L_spelled_all ["_law_edits_here"]
  d_law : Def K mg "law" s_law ["_law_script_here"]
  lam_law : LamT K mg base tb "law" ("law" ++ ".<locals>." ++ "<lambda>")
def lb_format_edit_0 : SM := (sIf (tOf (e1 (mIsi "tuple") (eVar 2))) (sExtend 1 (eFrz (oLst (aCons (eBin mIx (eVar 2) (eC (.int 0))) (aCons (eB mStr (aCons (eBin mIx (eVar 2) (eC (.int 1))) aNil)) (aCons (eBin mIx (eVar 2) (eC (.int 2))) aNil)))))) (sAppend 1 (eVar 2)))
def g_format_edit : SM := (sSeq (sSetO 1 (oLst (aCons (eBin mIx (eVar 0) (eC (.int 0))) aNil)))
    (sSeq (sFor (iAny (eSl (eVar 0) (pSome (eC (.int 1))) pNone)) (gSet 2) lb_format_edit_0)
    (sFrz 1 (sRet (eM1 mJoin (eC (.str " ")) (eVar 1))))))
def m_format_edit : List D → Bx → R D := runF 1 3 g_format_edit

def plS (p : Pl) : List Str := [tx [p.c], toString (p.n : Int), endS p.fr]
def wordsE : Ed → List Str
  | .keep => ["keep"]
  | .pre c => ["prepend", tx [c]]
  | .app c => ["append", tx [c]]
  | .at_ (.bef c) p => ("before" : Str) :: plS p ++ [tx [c]]
  | .at_ (.aft c) p => ("after" : Str) :: plS p ++ [tx [c]]
  | .at_ .rem p => ("remove" : Str) :: plS p
  | .at_ .flp p => ("flip" : Str) :: plS p
/-- the text of an edit -/
def edS (e : Ed) : Str := Txt.join " " (wordsE e)

def g_places : SMO := (oRet (oLcB (iAny (eC (.str "ab"))) (gSet 0) [0, 1, 2] (lvlM (iAny (eC (.tup [(.int 1), (.int 2)]))) (gSet 1) [1, 2] (lvlM (iAny (eC (.tup [(.str "front"), (.str "back")]))) (gSet 2) [2] (appM (eTup (aCons (eVar 0) (aCons (eVar 1) (aCons (eVar 2) aNil)))))))))
def mO_places : List D → Bx → R (List D) := runFO 0 3 g_places
def m_places : List D → Bx → R D := frzM mO_places

def placesP : List Pl := [⟨97, 1, true⟩, ⟨97, 1, false⟩, ⟨97, 2, true⟩, ⟨97, 2, false⟩, ⟨98, 1, true⟩, ⟨98, 1, false⟩, ⟨98, 2, true⟩, ⟨98, 2, false⟩]
def lb_shelf_0 : SM := (sExtend 0 (eFrz (oLc (iAny (eC (.str "ab"))) (gSet 2) tYesM (eTup (aCons (eVar 1) (aCons (eVar 2) aNil))) [2])))
def lb_shelf_1 : SM := (sExtend 0 (eFrz (oLc2 (iAny (eCall 0 m_places aNil)) (gSet 3) tYesM (iAny (eC (.str "ab"))) (gSet 2) tYesM (eTup (aCons (eVar 1) (aCons (eVar 3) (aCons (eVar 2) aNil)))) [3, 2] [2])))
def lb_shelf_2 : SM := (sExtend 0 (eFrz (oLc (iAny (eCall 0 m_places aNil)) (gSet 3) tYesM (eTup (aCons (eVar 1) (aCons (eVar 3) aNil))) [3])))
def g_shelf : SMO := (oSeq (sSetO 0 (oLst (aCons (eTup (aCons (eC (.str "keep")) aNil)) aNil)))
    (oSeq (sFor (iAny (eTup (aCons (eC (.str "prepend")) (aCons (eC (.str "append")) aNil)))) (gSet 1) lb_shelf_0)
    (oSeq (sFor (iAny (eTup (aCons (eC (.str "before")) (aCons (eC (.str "after")) aNil)))) (gSet 1) lb_shelf_1)
    (oSeq (sFor (iAny (eTup (aCons (eC (.str "remove")) (aCons (eC (.str "flip")) aNil)))) (gSet 1) lb_shelf_2)
    (oRetV 0)))))
def mO_shelf : List D → Bx → R (List D) := runFO 0 4 g_shelf
def m_shelf : List D → Bx → R D := frzM mO_shelf

/-- the shelf -/
def shelfL : List Ed := .keep :: .pre 97 :: .pre 98 :: .app 97 :: .app 98 :: (placesP.flatMap fun p => [.at_ (.bef 97) p, .at_ (.bef 98) p]) ++ (placesP.flatMap fun p => [.at_ (.aft 97) p, .at_ (.aft 98) p]) ++ (placesP.map fun p => .at_ .rem p) ++ (placesP.map fun p => .at_ .flp p)
theorem shelfO_ok (w : Bx) : mO_shelf [] w = .ok (shelfL.map edD) w := by
  kernel_rfl
theorem shelf_ok (w : Bx) : m_shelf [] w = .ok (.lst (shelfL.map edD)) w := frz_ok (shelfO_ok w)
/-- what is drawn stands on the shelf -/
theorem mem_shelf {e : Ed} (h : Ed12 e) : e ∈ shelfL := by
  have pl : ∀ p : Pl, PlOk p → p.n ≤ 2 → p ∈ placesP := fun p h1 h2 => by
    obtain ⟨c, n, fr⟩ := p
    obtain ⟨a1, a2, a3⟩ := h1
    have hn : n = 1 ∨ n = 2 := by simp only at a2 h2; omega
    rcases a1 with a1 | a1 <;> (try simp only at a1) <;> subst a1 <;> rcases hn with rfl | rfl <;> cases fr <;> simp [placesP]
  unfold shelfL
  obtain ⟨h1, h2⟩ := h
  cases e with
  | keep => simp
  | pre c => rcases h1 with h1 | h1 <;> subst h1 <;> simp
  | app c => rcases h1 with h1 | h1 <;> subst h1 <;> simp
  | at_ k p =>
    have hp := pl p h1.2 h2
    have hk := h1.1
    cases k with
    | bef c =>
      simp only [List.mem_append, List.mem_cons, List.mem_flatMap, List.mem_map]
      refine .inl (.inl (.inl (.inr (.inr (.inr (.inr (.inr ⟨p, hp, ?_⟩)))))))
      rcases hk with hk | hk <;> subst hk <;> simp
    | aft c =>
      simp only [List.mem_append, List.mem_cons, List.mem_flatMap, List.mem_map]
      refine .inl (.inl (.inr ⟨p, hp, ?_⟩))
      rcases hk with hk | hk <;> subst hk <;> simp
    | rem =>
      simp only [List.mem_append, List.mem_cons, List.mem_flatMap, List.mem_map]
      exact .inl (.inr ⟨p, hp, rfl⟩)
    | flp =>
      simp only [List.mem_append, List.mem_cons, List.mem_flatMap, List.mem_map]
      exact .inr ⟨p, hp, rfl⟩
theorem at_shelf {α : Type} {f g : Ed → α} (h : shelfL.map f = shelfL.map g) {e : Ed} (he : e ∈ shelfL) : f e = g e := (List.map_inj_left.mp h) e he
theorem fmt_all (w : Bx) : (shelfL.map fun e => m_format_edit [edD e] w) = shelfL.map fun e => .ok (.str (edS e)) w := by
  kernel_rfl
theorem fmt_ok {e : Ed} (he : e ∈ shelfL) (w : Bx) : m_format_edit [edD e] w = .ok (.str (edS e)) w := at_shelf (fmt_all w) he
def distB : Bool := decide (shelfL.map edS).Nodup
theorem dist_all : distB = true := by decide +kernel

def lb_L_spelled_0 : SM := (sSet 1 (eBin mAdd (eVar 1) (eIf (tOf (e1 (mIsi "str") (eVar 2))) (eFrz (oLst (aCons (eVar 2) aNil))) (eFrz (oLst (aCons (eBin mIx (eVar 2) (eC (.int 0))) (aCons (eB mStr (aCons (eBin mIx (eVar 2) (eC (.int 1))) aNil)) (aCons (eBin mIx (eVar 2) (eC (.int 2))) aNil))))))))
def g_L_spelled : SM := (sSeq (sSet 1 (eFrz (oLst (aCons (eBin mIx (eVar 0) (eC (.int 0))) aNil))))
    (sSeq (sFor (iAny (eSl (eVar 0) (pSome (eC (.int 1))) pNone)) (gSet 2) lb_L_spelled_0)
    (sRet (eM1 mJoin (eC (.str " ")) (eVar 1)))))
def m_L_spelled : List D → Bx → R D := runF 1 3 g_L_spelled

theorem spl_all (w : Bx) : (shelfL.map fun e => m_L_spelled [edD e] w) = shelfL.map fun e => .ok (.str (edS e)) w := by
  kernel_rfl
theorem spl_ok {e : Ed} (he : e ∈ shelfL) (w : Bx) : m_L_spelled [edD e] w = .ok (.str (edS e)) w := at_shelf (spl_all w) he

def g_Script___len__ : SM := (sRet (eB mLen (aCons (e1 (fldD "Script" "kept") (eVar 0)) aNil)))
def m_Script___len__ : List D → Bx → R D := runF 1 1 g_Script___len__

theorem sc_keptL (es : List Ed) : fldD "Script" "kept" (scD es) = some (.lst (es.map edD)) := by
  unfold fldD scD; simp [List.lookup]
theorem sclen_ok (es : List Ed) (h : es.length ≤ 1000) (w : Bx) : m_Script___len__ [scD es] w = .ok (.int (es.length : Int)) w := by
  have e : mLen [.lst (es.map edD)] = some (.int (es.length : Int)) := by
    show some (D.int ((es.map edD).length : Int)) = _
    rw [List.length_map]
  exact x_run rfl (x_ret (x_B (p_cons (x_e1 rfl (sc_keptL es)) x_nil) e))

def g_Script_edits : SMO := (oRet (oB mList (aCons (e1 (fldD "Script" "kept") (eVar 0)) aNil)))
def mO_Script_edits : List D → Bx → R (List D) := runFO 1 1 g_Script_edits
def m_Script_edits : List D → Bx → R D := frzM mO_Script_edits

theorem kept_neE (m : Str) (a : D) (h : (m == ("kept" : Str)) = false) : isObj "Script" m (.obj "Script" [("kept", a)]) = true := by
  unfold Y.isObj
  simp [List.lookup, h]
theorem editsO_sc (es : List Ed) (w : Bx) : mO_Script_edits [scD es] w = .ok (es.map edD) w := x_runFO rfl (x_oRet (x_oB (p_cons (x_e1 rfl (sc_kept _)) x_nil) rfl))
theorem edits_sc (es : List Ed) (h : es.length ≤ 1000) (w : Bx) : m_Script_edits [scD es] w = .ok (.lst (es.map edD)) w := frz_ok (editsO_sc es w)
theorem x_editsSc {fo : EM} {S : SL} {w w1 : Bx} {es : List Ed} (h : fo S w = .ok (scD es) w1) (hn : es.length ≤ 1000) : eMeth "Script" "edits" 1 m_Script_edits fo aNil S w = .ok (.lst (es.map edD)) w1 :=
  x_meth (ds := []) h (kept_neE _ _ (by decide +kernel)) x_nil rfl (edits_sc es hn w1)
theorem plain_eds (es : List Ed) (h : es.length ≤ 1000) (n : Nat) : plainD (n + 4) (.lst (es.map edD)) := ⟨by rw [List.length_map]; omega, fun x hx => by
  obtain ⟨e, _, rfl⟩ := List.mem_map.mp hx
  exact plain_ed e n⟩

def g_is_symbol : SM := (sRet (eBin mIn (eVar 0) (eTup (aCons (eC (.str "a")) (aCons (eC (.str "b")) aNil)))))
def m_is_symbol : List D → Bx → R D := runF 1 1 g_is_symbol

theorem is_symbol_ok {d : D} (h : nice1 d) (w : Bx) : m_is_symbol [d] w = .ok (.bl (isSym d)) w := by
  have h1 : mIn d (.tup [.str "a", .str "b"]) = some (.bl (isSym d)) := in_str2 h (by decide +kernel)
  exact x_run rfl (by unfold g_is_symbol; walk_at "y_ev")

def g_is_place : SM := (sSeq (sIf (tOrM (tNotM (tOf (e1 (mIsi "tuple") (eVar 0)))) (tOf (eBin mNe (eB mLen (aCons (eVar 0) aNil)) (eC (.int 3))))) (sRet (eC (.bl false))) sNil)
    (sSeq (sAsg (eVar 0) (gTupM (gsCons (gSet 1) (gsCons (gSet 2) (gsCons (gSet 3) gsNil)))))
    (sRet (eAndM (eCall 1 m_is_symbol (aCons (eVar 1) aNil)) (eAndM (eBin mIn (eVar 2) (eC (.tup [(.int 1), (.int 2)]))) (eAndM (eNotM (e1 (mIsi "bool") (eVar 2))) (eBin mIn (eVar 3) (eC (.tup [(.str "front"), (.str "back")])))))))))
def m_is_place : List D → Bx → R D := runF 1 4 g_is_place

theorem is_place_ok {d : D} (h : nice2 d) (w : Bx) : m_is_place [d] w = .ok (.bl (isPl d)) w := by
  cases d with
  | non => exact show m_is_place [_] w = .ok (.bl false) w from x_run rfl (by unfold g_is_place; walk_at "y_ev")
  | bl b => exact show m_is_place [_] w = .ok (.bl false) w from x_run rfl (by unfold g_is_place; walk_at "y_ev")
  | int b => exact show m_is_place [_] w = .ok (.bl false) w from x_run rfl (by unfold g_is_place; walk_at "y_ev")
  | str b => exact show m_is_place [_] w = .ok (.bl false) w from x_run rfl (by unfold g_is_place; walk_at "y_ev")
  | lst b => exact show m_is_place [_] w = .ok (.bl false) w from x_run rfl (by unfold g_is_place; walk_at "y_ev")
  | tup ds =>
    have hn := h.2 ds rfl
    match ds, hn with
    | [], hn => exact show m_is_place [_] w = .ok (.bl false) w from x_run rfl (by unfold g_is_place; walk_at "y_ev")
    | [a], hn =>
      have hl : mLen [.tup [a]] = some (.int 1) := rfl
      exact show m_is_place [_] w = .ok (.bl false) w from x_run rfl (by unfold g_is_place; walk_at "y_ev")
    | [a, b], hn =>
      have hl : mLen [.tup [a, b]] = some (.int 2) := rfl
      exact show m_is_place [_] w = .ok (.bl false) w from x_run rfl (by unfold g_is_place; walk_at "y_ev")
    | [a, b, c], hn =>
      have hl : mLen [.tup [a, b, c]] = some (.int 3) := rfl
      have ha := hn a (by simp)
      have hb := hn b (by simp)
      have hc := hn c (by simp)
      have k1 := is_symbol_ok ha w
      have k2 := in_12 hb
      have k4 : mIn c (.tup [.str "front", .str "back"]) = some (.bl (strEq "front" c || strEq "back" c)) := in_str2 hc (by decide +kernel)
      obtain ⟨t, k3⟩ := nice_ty hb
      have k3 := isi_of (T := "bool") k3
      have e : isPl (.tup [a, b, c]) = (isSym a && (in12 b && (!(isSub t "bool") && (strEq "front" c || strEq "back" c)))) := by
        show (isSym a && (isNum b && _)) = _
        congr 1
        cases b with
        | int i => rename_i k; cases (Option.some.inj k); rfl
        | bl i => rename_i k; cases (Option.some.inj k); cases i <;> rfl
        | _ => rfl
      rw [e]
      refine x_run rfl (x_seq (S1 := startS 4 [.tup [a, b, c]]) (w1 := w) (by walk_at "y_ev") (x_seq (x_asg (d := .tup [a, b, c]) (w1 := w) rfl rfl) (x_ret ?_)))
      generalize isSym a = b1 at *
      generalize in12 b = b2 at *
      generalize isSub t "bool" = b3 at *
      generalize (strEq "front" c || strEq "back" c) = b4 at *
      cases b1 with
      | false => show _ = R.ok (D.bl false) w; walk_at "y_ev"
      | true =>
        cases b2 with
        | false => show _ = R.ok (D.bl false) w; walk_at "y_ev"
        | true =>
          cases b3 with
          | true => show _ = R.ok (D.bl false) w; walk_at "y_ev"
          | false => show _ = R.ok (D.bl b4) w; walk_at "y_ev"
    | a :: b :: c :: e :: r, hn =>
      have hl : mLen [.tup (a :: b :: c :: e :: r)] = some (.int ((r.length + 4 : Nat) : Int)) := rfl
      have hk : mNe (.int ((r.length + 4 : Nat) : Int)) (.int 3) = some (.bl true) := by simp [mNe, eqB]; omega
      exact show m_is_place [_] w = .ok (.bl false) w from x_run rfl (by unfold g_is_place; walk_at "y_ev")
  | box => obtain ⟨p, e⟩ := h.1; cases (shp_some e).1
  | obj _ _ => obtain ⟨p, e⟩ := h.1; have := (shp_some e).1; rw [toPy] at this; cases this
  | dct _ => obtain ⟨p, e⟩ := h.1; have := (shp_some e).1; rw [toPy] at this; cases this
  | cel _ => obtain ⟨p, e⟩ := h.1; have := (shp_some e).1; rw [toPy] at this; cases this

def g_is_edit : SM := (sSeq (sIf (tOrM (tNotM (tOf (e1 (mIsi "tuple") (eVar 0)))) (tOf (eBin mEq (eB mLen (aCons (eVar 0) aNil)) (eC (.int 0))))) (sRet (eC (.bl false))) sNil)
    (sSeq (sSet 1 (eBin mIx (eVar 0) (eC (.int 0))))
    (sSeq (sIf (tOf (eBin mEq (eVar 1) (eC (.str "keep")))) (sRet (eBin mEq (eB mLen (aCons (eVar 0) aNil)) (eC (.int 1)))) sNil)
    (sSeq (sIf (tOf (eBin mIn (eVar 1) (eTup (aCons (eC (.str "prepend")) (aCons (eC (.str "append")) aNil))))) (sRet (eAndM (eBin mEq (eB mLen (aCons (eVar 0) aNil)) (eC (.int 2))) (eCall 1 m_is_symbol (aCons (eBin mIx (eVar 0) (eC (.int 1))) aNil)))) sNil)
    (sSeq (sIf (tOf (eBin mIn (eVar 1) (eTup (aCons (eC (.str "before")) (aCons (eC (.str "after")) aNil))))) (sRet (eAndM (eBin mEq (eB mLen (aCons (eVar 0) aNil)) (eC (.int 3))) (eAndM (eCall 1 m_is_place (aCons (eBin mIx (eVar 0) (eC (.int 1))) aNil)) (eCall 1 m_is_symbol (aCons (eBin mIx (eVar 0) (eC (.int 2))) aNil))))) sNil)
    (sRet (eAndM (eBin mIn (eVar 1) (eTup (aCons (eC (.str "remove")) (aCons (eC (.str "flip")) aNil)))) (eAndM (eBin mEq (eB mLen (aCons (eVar 0) aNil)) (eC (.int 2))) (eCall 1 m_is_place (aCons (eBin mIx (eVar 0) (eC (.int 1))) aNil))))))))))
def m_is_edit : List D → Bx → R D := runF 1 2 g_is_edit

theorem is_edit_ok {ds : List D} (h : ∀ x ∈ ds, nice2 x) (w : Bx) : m_is_edit [.tup ds] w = .ok (.bl (isEdD ds)) w := by
  cases ds with
  | nil => exact show m_is_edit [_] w = .ok (.bl false) w from x_run rfl (by unfold g_is_edit; walk_at "y_ev")
  | cons a r =>
    have ha := (h a (List.mem_cons_self ..)).1
    have k1 := eq_str (a := "keep") ha (by decide +kernel)
    have k2 := in_str2 (a := "prepend") (b := "append") ha (by decide +kernel)
    have k3 := in_str2 (a := "before") (b := "after") ha (by decide +kernel)
    have k4 := in_str2 (a := "remove") (b := "flip") ha (by decide +kernel)
    show _ = R.ok (D.bl (isEdB (strEq "keep" a) (strEq "prepend" a || strEq "append" a) (strEq "before" a || strEq "after" a) (strEq "remove" a || strEq "flip" a) r)) w
    generalize strEq "keep" a = b1 at *
    generalize (strEq "prepend" a || strEq "append" a) = b2 at *
    generalize (strEq "before" a || strEq "after" a) = b3 at *
    generalize (strEq "remove" a || strEq "flip" a) = b4 at *
    have hl0 : mEq (.int ((r.length + 1 : Nat) : Int)) (.int 0) = some (.bl false) := by simp [mEq, eqB]; omega
    have hl1 : mLen [.tup (a :: r)] = some (.int ((r.length + 1 : Nat) : Int)) := rfl
    have i0 : mIx (.tup (a :: r)) (.int 0) = some a := at_int (xs := a :: r) (by decide) (by simp)
    cases b1 with
    | true =>
      cases r with
      | nil => exact show m_is_edit [_] w = .ok (.bl true) w from x_run rfl (by unfold g_is_edit; walk_at "y_ev")
      | cons b r =>
        have e1 : mEq (.int (((b :: r).length + 1 : Nat) : Int)) (.int 1) = some (.bl false) := by simp [mEq, eqB]; omega
        exact show m_is_edit [_] w = .ok (.bl false) w from x_run rfl (by unfold g_is_edit; walk_at "y_ev")
    | false =>
      cases b2 with
      | true =>
        match r, h, hl0, hl1, i0 with
        | [], h, hl0, hl1, i0 => exact show m_is_edit [_] w = .ok (.bl false) w from x_run rfl (by unfold g_is_edit; walk_at "y_ev")
        | [b], h, hl0, hl1, i0 =>
          have q := is_symbol_ok (h b (by simp)).1 w
          have e1 : mEq (.int (([b].length + 1 : Nat) : Int)) (.int 2) = some (.bl true) := by simp [mEq, eqB]
          exact show m_is_edit [_] w = .ok (.bl (isSym b)) w from x_run rfl (by unfold g_is_edit; walk_at "y_ev")
        | b :: c :: r, h, hl0, hl1, i0 =>
          have e1 : mEq (.int (((b :: c :: r).length + 1 : Nat) : Int)) (.int 2) = some (.bl false) := by simp [mEq, eqB]; omega
          exact show m_is_edit [_] w = .ok (.bl false) w from x_run rfl (by unfold g_is_edit; walk_at "y_ev")
      | false =>
        cases b3 with
        | true =>
          match r, h, hl0, hl1, i0 with
          | [], h, hl0, hl1, i0 => exact show m_is_edit [_] w = .ok (.bl false) w from x_run rfl (by unfold g_is_edit; walk_at "y_ev")
          | [b], h, hl0, hl1, i0 =>
            have e1 : mEq (.int (([b].length + 1 : Nat) : Int)) (.int 3) = some (.bl false) := by simp [mEq, eqB]
            exact show m_is_edit [_] w = .ok (.bl false) w from x_run rfl (by unfold g_is_edit; walk_at "y_ev")
          | [b, c], h, hl0, hl1, i0 =>
            have q := is_place_ok (h b (by simp)) w
            have q2 := is_symbol_ok (h c (by simp)).1 w
            have e1 : mEq (.int (([b, c].length + 1 : Nat) : Int)) (.int 3) = some (.bl true) := by simp [mEq, eqB]
            show _ = R.ok (D.bl (isPl b && isSym c)) w
            generalize isPl b = b5 at *
            cases b5 with
            | true => exact show m_is_edit [_] w = .ok (.bl (isSym c)) w from x_run rfl (by unfold g_is_edit; walk_at "y_ev")
            | false => exact show m_is_edit [_] w = .ok (.bl false) w from x_run rfl (by unfold g_is_edit; walk_at "y_ev")
          | b :: c :: d :: r, h, hl0, hl1, i0 =>
            have e1 : mEq (.int (((b :: c :: d :: r).length + 1 : Nat) : Int)) (.int 3) = some (.bl false) := by simp [mEq, eqB]; omega
            exact show m_is_edit [_] w = .ok (.bl false) w from x_run rfl (by unfold g_is_edit; walk_at "y_ev")
        | false =>
          cases b4 with
          | false => exact show m_is_edit [_] w = .ok (.bl false) w from x_run rfl (by unfold g_is_edit; walk_at "y_ev")
          | true =>
            match r, h, hl0, hl1, i0 with
            | [], h, hl0, hl1, i0 => exact show m_is_edit [_] w = .ok (.bl false) w from x_run rfl (by unfold g_is_edit; walk_at "y_ev")
            | [b], h, hl0, hl1, i0 =>
              have q := is_place_ok (h b (by simp)) w
              have e1 : mEq (.int (([b].length + 1 : Nat) : Int)) (.int 2) = some (.bl true) := by simp [mEq, eqB]
              exact show m_is_edit [_] w = .ok (.bl (isPl b)) w from x_run rfl (by unfold g_is_edit; walk_at "y_ev")
            | b :: c :: r, h, hl0, hl1, i0 =>
              have e1 : mEq (.int (((b :: c :: r).length + 1 : Nat) : Int)) (.int 2) = some (.bl false) := by simp [mEq, eqB]; omega
              exact show m_is_edit [_] w = .ok (.bl false) w from x_run rfl (by unfold g_is_edit; walk_at "y_ev")

def lb_Script___init___0 : SM := (sIf (tNotM (tOf (eCall 1 m_is_edit (aCons (eVar 3) aNil)))) (sRaise "InvalidEdit" "at" "InvalidEdit" (eVar 2)) sNil)
def g_Script___init__ : SM := (sSeq (sFor (iEnumT (eVar 1)) (gTupM (gsCons (gSet 2) (gsCons (gSet 3) gsNil))) lb_Script___init___0)
    (sSeq (sIf (tOf (eBin (mI fun i j => decide (j < i)) (eB mLen (aCons (eVar 1) aNil)) (eC (.int 4)))) (sRaise "TooLong" "most" "TooLong" (eC (.int 4))) sNil)
    (sFldI 0 "Script" "kept" (eFrz (oB mList (aCons (eVar 1) aNil))))))
def m_Script___init__ : List D → Bx → R (List (Str × D)) := fun ds w => runI "Script" 2 4 g_Script___init__ [.tup ds] w

theorem init_sc (es : List Ed) (he : ∀ e ∈ es, Ed12 e) (hn : es.length ≤ 4) (w : Bx) : m_Script___init__ (es.map edD) w = .ok [("kept", .lst (es.map edD))] w := by
  obtain ⟨S2, e2, s2, s3, rfl⟩ := x_forW (w := w) (gm := gTupM (gsCons (gSet 2) (gsCons (gSet 3) gsNil))) (body := lb_Script___init___0) (fun S => ∃ s2 s3 : Option D, S = [some (.ins "Script" []), some (.dat (.tup (es.map edD))), s2.map .dat, s3.map .dat]) (numbered (es.map edD)) [some (.ins "Script" []), some (.dat (.tup (es.map edD))), none, none] ⟨none, none, rfl⟩ (fun x hx S h => by
    obtain ⟨s2, s3, rfl⟩ := h
    obtain ⟨i, d, rfl, hd⟩ := num_mem hx
    obtain ⟨e, hm, rfl⟩ := List.mem_map.mp hd
    obtain ⟨ds, e1, e2, e3⟩ := ed_is (he e hm).1 (he e hm).2
    have q := is_edit_ok (fun x hx => nice2_ofN (e2 x hx)) w
    rw [← e1, e3] at q
    refine ⟨[some (.ins "Script" []), some (.dat (.tup (es.map edD))), some (.dat (.int (i : Int))), some (.dat (edD e))], [some (.ins "Script" []), some (.dat (.tup (es.map edD))), some (.dat (.int (i : Int))), some (.dat (edD e))], rfl, ?_, some (.int (i : Int)), some (edD e), rfl⟩
    exact x_ifF (w1 := w) (x_notT (x_tOf (x_call (p_cons rfl x_nil) rfl q))) rfl)
  have hl : mLen [.tup (es.map edD)] = some (.int ((es.map edD).length : Int)) := rfl
  have hc : (mI fun i j => decide (j < i)) (.int ((es.map edD).length : Int)) (.int 4) = some (.bl false) := by
    show some (D.bl (decide ((4 : Int) < _))) = _
    rw [decide_eq_false (by rw [List.length_map]; omega)]
  have h : g_Script___init__ (startI 4 "Script" [.tup (es.map edD)]) w = .nx [some (.ins "Script" [("kept", .lst (es.map edD))]), some (.dat (.tup (es.map edD))), s2.map .dat, s3.map .dat] w := by
    unfold g_Script___init__
    refine p_seq (x_for (x_enumT (w1 := w) rfl) e2) (p_seq (x_ifF (w1 := w) (x_tOf (p_bin (x_B (p_cons rfl x_nil) hl) rfl hc)) rfl) ?_)
    rw [x_fldI (fl := []) (d := .lst (es.map edD)) (w1 := w) (x_frz (x_oB (p_cons rfl x_nil) rfl)) insAt_cons ⟨by decide, by cases s2 <;> cases s3 <;> rfl⟩]
    rfl
  show runI "Script" 2 4 g_Script___init__ [.tup (es.map edD)] w = _
  unfold runI
  rw [if_pos (show [D.tup (es.map edD)].length + 1 = 2 from rfl), h]
  exact endI_ins
theorem x_mkSc {fs : AM} {S : SL} {w w1 : Bx} {es : List Ed} (h : fs S w = .ok (es.map edD) w1) (he : ∀ e ∈ es, Ed12 e) (hn : es.length ≤ 4) : eMake "Script" (nLe 1000) m_Script___init__ fs S w = .ok (scD es) w1 := x_make h (by rw [List.length_map]; exact Nat.ble_eq.mpr (by omega)) (init_sc es he hn w1)
theorem init_long (es : List Ed) (he : ∀ e ∈ es, Ed12 e) (hn : 4 < es.length) (w : Bx) : m_Script___init__ (es.map edD) w = .err "TooLong" [("tag", .str "TooLong"), ("most", .int 4)] w := by
  obtain ⟨S2, e2, s2, s3, rfl⟩ := x_forW (w := w) (gm := gTupM (gsCons (gSet 2) (gsCons (gSet 3) gsNil))) (body := lb_Script___init___0) (fun S => ∃ s2 s3 : Option D, S = [some (.ins "Script" []), some (.dat (.tup (es.map edD))), s2.map .dat, s3.map .dat]) (numbered (es.map edD)) [some (.ins "Script" []), some (.dat (.tup (es.map edD))), none, none] ⟨none, none, rfl⟩ (fun x hx S h => by
    obtain ⟨s2, s3, rfl⟩ := h
    obtain ⟨i, d, rfl, hd⟩ := num_mem hx
    obtain ⟨e, hm, rfl⟩ := List.mem_map.mp hd
    obtain ⟨ds, e1, e2, e3⟩ := ed_is (he e hm).1 (he e hm).2
    have q := is_edit_ok (fun x hx => nice2_ofN (e2 x hx)) w
    rw [← e1, e3] at q
    refine ⟨[some (.ins "Script" []), some (.dat (.tup (es.map edD))), some (.dat (.int (i : Int))), some (.dat (edD e))], [some (.ins "Script" []), some (.dat (.tup (es.map edD))), some (.dat (.int (i : Int))), some (.dat (edD e))], rfl, ?_, some (.int (i : Int)), some (edD e), rfl⟩
    exact x_ifF (w1 := w) (x_notT (x_tOf (x_call (p_cons rfl x_nil) rfl q))) rfl)
  have hl : mLen [.tup (es.map edD)] = some (.int ((es.map edD).length : Int)) := rfl
  have hc : (mI fun i j => decide (j < i)) (.int ((es.map edD).length : Int)) (.int 4) = some (.bl true) := by
    show some (D.bl (decide ((4 : Int) < _))) = _
    rw [decide_eq_true (by rw [List.length_map]; omega)]
  have h : g_Script___init__ (startI 4 "Script" [.tup (es.map edD)]) w = .err [some (.ins "Script" []), some (.dat (.tup (es.map edD))), s2.map .dat, s3.map .dat] "TooLong" [("tag", .str "TooLong"), ("most", .int 4)] w := by
    unfold g_Script___init__
    exact p_seq (x_for (x_enumT (w1 := w) rfl) e2) (x_seqE (x_ifTE (x_raise (w1 := w) rfl) (x_tOf (p_bin (x_B (p_cons rfl x_nil) hl) rfl hc))))
  exact x_runIE (ds := [D.tup (es.map edD)]) rfl h
theorem x_mkLong {fs : AM} {S : SL} {w w1 : Bx} {es : List Ed} (h : fs S w = .ok (es.map edD) w1) (he : ∀ e ∈ es, Ed12 e) (hn : 4 < es.length) (h2 : es.length ≤ 1000) : eMake "Script" (nLe 1000) m_Script___init__ fs S w = .err "TooLong" [("tag", .str "TooLong"), ("most", .int 4)] w1 :=
  x_makeE h (by rw [List.length_map]; exact Nat.ble_eq.mpr h2) (init_long es he hn w1)
theorem bad_edit {d : D} (h : d ∈ [D.tup [], .tup [.str "jump"], .tup [.str "flip", .tup [.str "a", .int 3, .str "back"]], .tup [.str "append", .str "c"]]) (w : Bx) : m_is_edit [d] w = .ok (.bl false) w := by
  simp only [List.mem_cons, List.not_mem_nil, or_false] at h
  have sk : ∀ {s : Str}, PyData.strOk s = true → nice2 (.str s) := fun h => nice2_ofN (n := 1) h
  rcases h with rfl | rfl | rfl | rfl
  · exact is_edit_ok (ds := []) (fun x hx => nomatch hx) w
  · have q := is_edit_ok (ds := [.str "jump"]) (fun x hx => by rw [List.mem_singleton.mp hx]; exact sk (by decide +kernel)) w
    rw [show isEdD [.str "jump"] = false by decide +kernel] at q
    exact q
  · have q := is_edit_ok (ds := [.str "flip", .tup [.str "a", .int 3, .str "back"]]) (fun x hx => by
      simp only [List.mem_cons, List.not_mem_nil, or_false] at hx
      rcases hx with rfl | rfl
      · exact sk (by decide +kernel)
      · exact nice2_ofN (n := 2) (nice_tupl (nice_cons (show PyData.strOk "a" = true by decide +kernel) (nice_cons trivial (nice_cons (show PyData.strOk "back" = true by decide +kernel) nice_nil))))) w
    rw [show isEdD [.str "flip", .tup [.str "a", .int 3, .str "back"]] = false by decide +kernel] at q
    exact q
  · have q := is_edit_ok (ds := [.str "append", .str "c"]) (fun x hx => by
      simp only [List.mem_cons, List.not_mem_nil, or_false] at hx
      rcases hx with rfl | rfl
      · exact sk (by decide +kernel)
      · exact sk (by decide +kernel)) w
    rw [show isEdD [.str "append", .str "c"] = false by decide +kernel] at q
    exact q

def lb_parse_edit_0 : SM := (sIf (tOf (eBin mEq (eCall 1 m_format_edit (aCons (eVar 1) aNil)) (eVar 0))) (sRet (eVar 1)) sNil)
def g_parse_edit : SM := (sSeq (sFor (iAny (eCall 0 m_shelf aNil)) (gSet 1) lb_parse_edit_0)
    (sRaise "ParseError" "at" "ParseError" (eC (.int 0))))
def m_parse_edit : List D → Bx → R D := runF 1 2 g_parse_edit

theorem find_dist {e : Ed} : ∀ {l : List Ed}, (l.map edS).Nodup → e ∈ l → (l.find? fun x => decide (edS x = edS e)) = some e
  | x :: l, h, he => by
    rw [List.map_cons, List.nodup_cons] at h
    rw [List.find?_cons]
    by_cases hx : edS x = edS e
    · rw [decide_eq_true hx]
      rcases List.mem_cons.mp he with rfl | hm
      · rfl
      · exact absurd (List.mem_map.mpr ⟨e, hm, hx.symm⟩) h.1
    · rw [decide_eq_false hx]
      rcases List.mem_cons.mp he with rfl | hm
      · exact absurd rfl hx
      · exact find_dist h.2 hm
theorem parse_any (t : Str) (w : Bx) : (∃ e, (shelfL.find? fun x => decide (edS x = t)) = some e ∧ m_parse_edit [.str t] w = .ok (edD e) w) ∨ ((shelfL.find? fun x => decide (edS x = t)) = none ∧ m_parse_edit [.str t] w = .err "ParseError" [("tag", .str "ParseError"), ("at", .int 0)] w) := by
  have key := x_forF1 (gm := gSet 1) (body := lb_parse_edit_0) (w := w) edD (fun x => decide (edS x = t)) (fun S => ∃ s1, S = [some (.dat (.str t)), s1]) shelfL [some (.dat (.str t)), none] ⟨_, rfl⟩ (fun e he S h => by
    obtain ⟨s1, rfl⟩ := h
    have f := fmt_ok he w
    have q : mEq (.str (edS e)) (.str t) = some (.bl (decide (edS e = t))) := eq_texts
    refine ⟨[some (.dat (.str t)), some (.dat (edD e))], rfl, ?_⟩
    by_cases h : edS e = t
    · rw [decide_eq_true h] at q ⊢
      exact .inl ⟨rfl, x_ifT (w1 := w) (x_tOf (p_bin (x_call (p_cons rfl x_nil) rfl f) rfl q)) (x_ret rfl)⟩
    · rw [decide_eq_false h] at q ⊢
      exact .inr ⟨rfl, _, x_ifF (w1 := w) (x_tOf (p_bin (x_call (p_cons rfl x_nil) rfl f) rfl q)) rfl, _, rfl⟩)
  have it : iAny (eCall 0 m_shelf aNil) (startS 2 [.str t]) w = .ok (shelfL.map edD) w := x_any (x_call x_nil rfl (shelf_ok w)) rfl
  rcases key with ⟨e, h1, h2⟩ | ⟨h1, S2, h2, _, rfl⟩
  · exact .inl ⟨e, h1, x_run rfl (x_seqR (x_for it h2))⟩
  · exact .inr ⟨h1, x_runE rfl (p_seq (x_for it h2) (x_raise (w1 := w) rfl))⟩
theorem parse_ok {e : Ed} (he : e ∈ shelfL) (w : Bx) : m_parse_edit [.str (edS e)] w = .ok (edD e) w := by
  have f := find_dist (of_decide_eq_true dist_all) he
  rcases parse_any (edS e) w with ⟨x, h1, h2⟩ | ⟨h1, _⟩
  · rw [f] at h1; cases h1; exact h2
  · rw [f] at h1; cases h1

def lb_Script_read_0 : SM := (sTryS ["ParseError"] (sAppend 2 (eCall 1 m_parse_edit (aCons (eVar 5) aNil))) (sRaise "ParseError" "at" "ParseError" (eVar 4)))
def g_Script_read : SM := (sSeq (sSetO 2 (oLst aNil))
    (sSeq (sSet 3 (eIf (tOf (eBin mEq (eVar 1) (eC (.str "")))) (eFrz (oLst aNil)) (eM1 mSplitS (eVar 1) (eC (.str "; ")))))
    (sSeq (sFor (iEnumD (eVar 3)) (gTupM (gsCons (gSet 4) (gsCons (gSet 5) gsNil))) lb_Script_read_0)
    (sFrz 2 (sRet (eMakeLS 0 "Script" (nLe 1000) m_Script___init__ (aStar (eVar 2))))))))
def m_Script_read : List D → Bx → R D := runK "Script" 1 6 g_Script_read

theorem numbered_zj (ds : List D) : Y.numbered ds = (ds.zipIdx 0).map fun p => D.tup [.int (p.2 : Int), p.1] := by
  unfold Y.numbered
  apply List.ext_getElem
  · simp
  · intro k h1 h2
    simp
theorem for_er {gm : GM} {body : SM} {d : D} {ds : List D} {S S1 S2 : SL} {w w1 : Bx} {c : Str} {fs : List (Str × D)} (h1 : gm d S = some S1) (h2 : body S1 w = .err S2 c fs w1) : forLoop gm body (d :: ds) S w = .err S2 c fs w1 := by
  unfold forLoop
  rw [h1]
  simp only [h2]
theorem rd_appE {i : Nat} {fa : EM} {S : SL} {w w1 : Bx} {ds : List D} {c : Str} {fs : List (Str × D)} (ho : ownAt S i = some ds) (h : fa S w = .err c fs w1) : sAppend i fa S w = .err S c fs w1 := by
  unfold sAppend; rw [ho]; simp only; rw [h]; rfl
theorem edS_fine : (shelfL.all fun e => noPair 59 32 (edS e).cps.toList && (decide (1 ≤ (edS e).length) && decide ((edS e).length ≤ 40))) = true := by kernel_rfl
theorem edS_ok {e : Ed} (h : e ∈ shelfL) : noPair 59 32 (edS e).cps.toList = true ∧ 1 ≤ (edS e).length ∧ (edS e).length ≤ 40 := by
  have := List.all_eq_true.mp edS_fine e h
  rw [Bool.and_eq_true, Bool.and_eq_true] at this
  exact ⟨this.1, of_decide_eq_true this.2.1, of_decide_eq_true this.2.2⟩
/-- a text that no edit has, and that is one part -/
structure BadT (b : Str) : Prop where
  no : (shelfL.find? fun x => decide (edS x = b)) = none
  np : noPair 59 32 b.cps.toList = true
  le : b.length ≤ 40
abbrev rdG : GM := gTupM (gsCons (gSet 4) (gsCons (gSet 5) gsNil))
def rdT (ps : List Str) (k : Nat) : List D := ((ps.map D.str).zipIdx k).map fun p => D.tup [.int (p.2 : Int), p.1]
theorem rdT_cons (p : Str) (ps : List Str) (k : Nat) : rdT (p :: ps) k = .tup [.int (k : Int), .str p] :: rdT ps (k + 1) := by
  unfold rdT
  rw [List.map_cons, List.zipIdx_cons, List.map_cons]
theorem rd_lp {w : Bx} {t : Str} (s3 : Option SV) (Q : RS → Prop) (tl : List Str) : ∀ (es : List Ed) (k : Nat) (acc : List D) (s4 s5 : Option SV), (∀ e ∈ es, e ∈ shelfL) → acc.length + es.length ≤ 1000 →
    (∀ s4 s5 : Option SV, Q (forLoop rdG lb_Script_read_0 (rdT tl (k + es.length)) [some (.cls "Script"), some (.dat (.str t)), some (.own (acc ++ es.map edD)), s3, s4, s5] w)) →
    Q (forLoop rdG lb_Script_read_0 (rdT (es.map edS ++ tl) k) [some (.cls "Script"), some (.dat (.str t)), some (.own acc), s3, s4, s5] w)
  | [], k, acc, s4, s5, _, _, h => by
    have := h s4 s5
    rw [List.map_nil, List.append_nil] at this
    exact this
  | e :: es, k, acc, s4, s5, he, hl, h => by
    rw [List.length_cons] at hl
    have ih := rd_lp s3 Q tl es (k + 1) (acc ++ [edD e]) (some (.dat (.int (k : Int)))) (some (.dat (.str (edS e)))) (fun x hx => he x (List.mem_cons_of_mem _ hx)) (by simp; omega) (fun s4 s5 => by
      have := h s4 s5
      rw [List.length_cons, List.map_cons] at this
      rw [List.append_assoc, show k + 1 + es.length = k + (es.length + 1) by omega]
      exact this)
    have e1 : lb_Script_read_0 [some (.cls "Script"), some (.dat (.str t)), some (.own acc), s3, some (.dat (.int (k : Int))), some (.dat (.str (edS e)))] w = .nx [some (.cls "Script"), some (.dat (.str t)), some (.own (acc ++ [edD e])), s3, some (.dat (.int (k : Int))), some (.dat (.str (edS e)))] w :=
      x_tryS (x_app (x_call (p_cons rfl x_nil) rfl (parse_ok (he e List.mem_cons_self) w)) rfl (by omega))
    rw [List.map_cons, List.cons_append, rdT_cons]
    show Q (match lb_Script_read_0 [some (.cls "Script"), some (.dat (.str t)), some (.own acc), s3, some (.dat (.int (k : Int))), some (.dat (.str (edS e)))] w with
      | .nx S2 w2 => forLoop rdG lb_Script_read_0 (rdT (es.map edS ++ tl) (k + 1)) S2 w2
      | .ct S2 w2 => forLoop rdG lb_Script_read_0 (rdT (es.map edS ++ tl) (k + 1)) S2 w2
      | .bk S2 w2 => .nx S2 w2
      | r => r)
    rw [e1]
    exact ih
theorem find_bad {b : Str} (hb : BadT b) (w : Bx) : m_parse_edit [.str b] w = .err "ParseError" [("tag", .str "ParseError"), ("at", .int 0)] w := by
  rcases parse_any b w with ⟨e, h1, _⟩ | ⟨_, h2⟩
  · rw [hb.no] at h1; cases h1
  · exact h2
theorem rd_pre {w : Bx} {t : Str} {ps : List Str} {r : RS} (h0 : (t = "" ∧ ps = []) ∨ (t ≠ "" ∧ Txt.split t "; " = ps ∧ t.length ≤ 100000))
    (h : (sSeq (sFor (iEnumD (eVar 3)) rdG lb_Script_read_0) (sFrz 2 (sRet (eMakeLS 0 "Script" (nLe 1000) m_Script___init__ (aStar (eVar 2)))))) [some (.cls "Script"), some (.dat (.str t)), some (.own []), some (.dat (.lst (ps.map D.str))), none, none] w = r) :
    g_Script_read (startK "Script" 6 [.str t]) w = r := by
  have q : mEq (.str t) (.str "") = some (.bl (decide (t = "")) ) := eq_texts
  refine p_seq (x_setO (x_lst x_nil (lsz rfl))) (p_seq (S1 := [some (.cls "Script"), some (.dat (.str t)), some (.own []), some (.dat (.lst (ps.map D.str))), none, none]) ?_ h)
  rcases h0 with ⟨e1, e2⟩ | ⟨e1, e2, e3⟩
  · subst e2
    rw [decide_eq_true e1] at q
    exact x_set (x_eifT (x_tOf (x_bin rfl x_C q)) (x_frz (x_lst x_nil (lsz rfl))))
  · rw [decide_eq_false e1] at q
    have sp : mSplitS (.str t) (.str "; ") = some (.lst (ps.map D.str)) := by
      have l1 : (("; " : Str).length == 0) = false := by decide +kernel
      unfold mSplitS
      simp only
      rw [if_pos ⟨l1, by unfold sizeN; omega⟩, e2]
    exact x_set (x_eifF (x_tOf (x_bin rfl x_C q)) (x_m1 (w1 := w) (w2 := w) (x_var rfl) x_C sp))
/-- all parts are edits -/
theorem read_ok {w : Bx} {t : Str} {es : List Ed} (h0 : (t = "" ∧ es.map edS = []) ∨ (t ≠ "" ∧ Txt.split t "; " = es.map edS ∧ t.length ≤ 100000)) (he : ∀ e ∈ es, Ed12 e) (hn : es.length ≤ 1000) :
    m_Script_read [.str t] w = (if es.length ≤ 4 then .ok (scD es) w else .err "TooLong" [("tag", .str "TooLong"), ("most", .int 4)] w) := by
  obtain ⟨S4, S5, e2⟩ := rd_lp (w := w) (t := t) (some (.dat (.lst ((es.map edS).map D.str)))) (fun r => ∃ s4 s5, r = .nx [some (.cls "Script"), some (.dat (.str t)), some (.own (es.map edD)), some (.dat (.lst ((es.map edS).map D.str))), s4, s5] w) [] es 0 [] none none (fun e h => mem_shelf (he e h)) (by show 0 + _ ≤ _; omega) (fun s4 s5 => ⟨s4, s5, rfl⟩)
  rw [List.append_nil] at e2
  have it : iEnumD (eVar 3) [some (.cls "Script"), some (.dat (.str t)), some (.own []), some (.dat (.lst ((es.map edS).map D.str))), none, none] w = .ok (rdT (es.map edS) 0) w := x_enum (x_var rfl) (congrArg some (numbered_zj _))
  have st : aStar (eVar 2) [some (.cls "Script"), some (.dat (.str t)), some (.dat (.lst (es.map edD))), some (.dat (.lst ((es.map edS).map D.str))), S4, S5] w = .ok (es.map edD) w := rfl
  by_cases h4 : es.length ≤ 4
  · rw [if_pos h4]
    exact x_runK rfl (rd_pre h0 (p_seq (x_for it e2) (x_frzS (x_ret (x_makeLS rfl (x_mkSc st he h4))))))
  · rw [if_neg h4]
    exact x_runKE rfl (rd_pre h0 (p_seq (x_for it e2) (x_frzS (x_retE (x_makeLS rfl (x_mkLong st he (by omega) hn))))))
/-- a part is not -/
theorem read_bad {w : Bx} {t b : Str} {es : List Ed} {rest : List Str} (h0 : t ≠ "" ∧ Txt.split t "; " = es.map edS ++ b :: rest ∧ t.length ≤ 100000) (he : ∀ e ∈ es, Ed12 e) (hb : BadT b) (hn : es.length ≤ 1000) :
    m_Script_read [.str t] w = .err "ParseError" [("tag", .str "ParseError"), ("at", .int (es.length : Int))] w := by
  obtain ⟨S2, e2⟩ := rd_lp (w := w) (t := t) (some (.dat (.lst ((es.map edS ++ b :: rest).map D.str)))) (fun r => ∃ S2, r = .err S2 "ParseError" [("tag", .str "ParseError"), ("at", .int (es.length : Int))] w) (b :: rest) es 0 [] none none (fun e h => mem_shelf (he e h)) (by show 0 + _ ≤ _; omega) (fun s4 s5 => by
    rw [rdT_cons, List.nil_append, Nat.zero_add]
    have e1 : lb_Script_read_0 [some (.cls "Script"), some (.dat (.str t)), some (.own (es.map edD)), some (.dat (.lst ((es.map edS ++ b :: rest).map D.str))), some (.dat (.int (es.length : Int))), some (.dat (.str b))] w = .err [some (.cls "Script"), some (.dat (.str t)), some (.own (es.map edD)), some (.dat (.lst ((es.map edS ++ b :: rest).map D.str))), some (.dat (.int (es.length : Int))), some (.dat (.str b))] "ParseError" [("tag", .str "ParseError"), ("at", .int (es.length : Int))] w :=
      x_tryS_er (rd_appE rfl (x_call (p_cons rfl x_nil) rfl (find_bad hb w))) (by decide +kernel) (x_raise rfl)
    exact ⟨_, for_er rfl e1⟩)
  have it : iEnumD (eVar 3) [some (.cls "Script"), some (.dat (.str t)), some (.own []), some (.dat (.lst ((es.map edS ++ b :: rest).map D.str))), none, none] w = .ok (rdT (es.map edS ++ b :: rest) 0) w := x_enum (x_var rfl) (congrArg some (numbered_zj _))
  exact x_runKE rfl (rd_pre (.inr h0) (x_seqE (x_for it e2)))

def g_Script_text : SM := (sRet (eM1 mJoin (eC (.str "; ")) (eFrz (oLc (iAny (e1 (fldD "Script" "kept") (eVar 0))) (gSet 1) tYesM (eCall 1 m_format_edit (aCons (eVar 1) aNil)) [1]))))
def m_Script_text : List D → Bx → R D := runF 1 2 g_Script_text

def txE (es : List Ed) : Str := Txt.join "; " (es.map edS)
theorem strs_mapE : ∀ zs : List Str, strsOf (zs.map D.str) = some zs
  | [] => rfl
  | z :: zs => by rw [List.map_cons, strsOf, strs_mapE zs]; rfl
theorem edS_all : (shelfL.all fun e => decide ((edS e).length ≤ 40)) = true := by kernel_rfl
theorem edS_len {e : Ed} (he : e ∈ shelfL) : (edS e).length ≤ 40 := of_decide_eq_true (List.all_eq_true.mp edS_all e he)
theorem sum_40 : ∀ ys : List Str, (∀ z ∈ ys, z.length ≤ 40) → (ys.map (·.length)).sum ≤ ys.length * 40
  | [], _ => Nat.le_refl _
  | y :: ys, hy => by
    have := sum_40 ys fun z hz => hy z (List.mem_cons_of_mem _ hz)
    have := hy y List.mem_cons_self
    simp only [List.map_cons, List.sum_cons, List.length_cons]
    omega
theorem join_eds {es : List Ed} (h : ∀ e ∈ es, e ∈ shelfL) (hn : es.length ≤ 100) : mJoin (.str "; ") (.lst (es.map fun e => D.str (edS e))) = some (.str (txE es)) ∧ (txE es).length ≤ 4300 := by
  have l1 : ("; " : Str).length = 2 := by decide +kernel
  have sh : ∀ z ∈ es.map edS, z.length ≤ 40 := fun z hz => by
    obtain ⟨e, he, rfl⟩ := List.mem_map.mp hz
    exact edS_len (h e he)
  have s := sum_40 _ sh
  have ln : (es.map edS).length = es.length := List.length_map _
  have em : (es.map fun e => D.str (edS e)) = (es.map edS).map D.str := by rw [List.map_map]; rfl
  constructor
  · rw [em]
    unfold mJoin
    simp only [strs_mapE, Option.bind_some]
    unfold joinS
    rw [l1, if_pos (show _ ≤ sizeN from by unfold sizeN; omega)]
    rfl
  · have := len_join (g := "; ") (ys := es.map edS)
    rw [l1] at this
    unfold txE
    omega
theorem text_ok {es : List Ed} (h : ∀ e ∈ es, Ed12 e) (hn : es.length ≤ 100) (w : Bx) : m_Script_text [scD es] w = .ok (.str (txE es)) w := by
  have lc := x_lcT (S := wipeS [some (.dat (scD es)), none] [1]) (gm := gSet 1) (em := eCall 1 m_format_edit (aCons (eVar 1) aNil)) edD (fun e => .str (edS e)) es w (fun e he => ⟨_, rfl, x_call (p_cons rfl x_nil) rfl (fmt_ok (mem_shelf (h e he)) w)⟩)
  exact x_run rfl (x_ret (x_m1 (w1 := w) (w2 := w) x_C (x_frz (p_lc (p_any (x_e1 rfl (sc_keptL es)) rfl) (by rw [List.length_map]; show _ ≤ 16777216; omega) lc)) (join_eds (fun e he => mem_shelf (h e he)) hn).1))

def g_L_draw : SM := (sSeq (sIf (tAndM (tOf (eBin mEq (eBx 0 2) (eC (.int 0)))) (tOf (eBin mLt (eBx 0 1) (eB mLen (aCons (eBx 0 0) aNil))))) (sSeq (sSet 2 (eBin mIx (eBx 0 0) (eBx 0 1)))
    (sSeq (sBx 0 1 (eBin mAdd (eBx 0 1) (eC (.int 1))))
    (sIf (tOf (eBin (mI fun i j => decide (j ≤ i)) (eVar 2) (eBin mPow (eC (.int 10)) (eC (.int 18))))) (sBx 0 2 (eVar 2)) (sBx 0 3 (eBin mMod (eBin mAdd (eBin mAdd (eBin mMul (eBx 0 3) (eC (.int 69621))) (eBin mMod (eVar 2) (eC (.int 2147483563)))) (eBin mMul (eBx 0 1) (eC (.int 1597)))) (eC (.int 2147483647))))))) sNil)
    (sSeq (sIf (tOf (eBin (mI fun i j => decide (j < i)) (eBx 0 2) (eC (.int 0)))) (sSeq (sSet 3 (eBin mMod (eBx 0 2) (eVar 1)))
    (sSeq (sBx 0 2 (eBin mDiv (eBx 0 2) (eVar 1)))
    (sRet (eVar 3)))) sNil)
    (sSeq (sBx 0 3 (eBin mMod (eBin mAdd (eBin mMul (eBx 0 3) (eC (.int 48271))) (eC (.int 11))) (eC (.int 2147483647))))
    (sRet (eBin mMod (eBin mDiv (eBin mMod (eBin mMul (eBx 0 3) (eBx 0 3)) (eC (.int 998244353))) (eC (.int 13))) (eVar 1))))))
def m_L_draw : List D → Bx → R D := runF 2 4 g_L_draw

theorem pow18 : ∃ c : Int, mPow (.int 10) (.int 18) = some (.int c) ∧ 0 ≤ c := by
  refine ⟨(10 : Int) ^ (18 : Int).toNat, ?_, by decide⟩
  have e : mPow (.int 10) (.int 18) = if (0 : Int) ≤ 18 ∧ (18 : Int) ≤ 1000000 ∧ (10 : Int).natAbs < 2 ^ 64 then some (.int ((10 : Int) ^ (18 : Int).toNat)) else none := rfl
  rw [e, if_pos ⟨by decide, by decide, by decide⟩]
def drawTail : SM := (sSeq (sIf (tOf (eBin (mI fun i j => decide (j < i)) (eBx 0 2) (eC (.int 0)))) (sSeq (sSet 3 (eBin mMod (eBx 0 2) (eVar 1)))
    (sSeq (sBx 0 2 (eBin mDiv (eBx 0 2) (eVar 1)))
    (sRet (eVar 3)))) sNil)
    (sSeq (sBx 0 3 (eBin mMod (eBin mAdd (eBin mMul (eBx 0 3) (eC (.int 48271))) (eC (.int 11))) (eC (.int 2147483647))))
    (sRet (eBin mMod (eBin mDiv (eBin mMod (eBin mMul (eBx 0 3) (eBx 0 3)) (eC (.int 998244353))) (eC (.int 13))) (eVar 1)))))
theorem draw_tail (n : Int) (h0 : 0 < n) (h1 : n < 1073741824) (x : Option SV) (w : Bx) : ∃ r w', drawTail [some (.dat .box), some (.dat (.int n)), x, none] w = .rt (.int r) w' ∧ 0 ≤ r ∧ r < n := by
  by_cases hb : 0 < w.big
  · refine ⟨w.big % n, { w with big := w.big / n }, ?_, Int.emod_nonneg _ (by omega), Int.emod_lt_of_pos _ h0⟩
    have hd : 0 ≤ w.big / n := Int.ediv_nonneg (by omega) (by omega)
    simp [drawTail, sSeq, sIf, sSet, sBx, sRet, tOf, eBin, eBx, eVar, eC, mMod, mDiv, mI, isBox, bxGet, bxPut, hb, h0, h1, hd]
  · have hm0 : 0 ≤ (w.mark * 48271 + 11) % 2147483647 := Int.emod_nonneg _ (by decide)
    have hm1 : (w.mark * 48271 + 11) % 2147483647 < 2147483647 := Int.emod_lt_of_pos _ (by decide)
    refine ⟨((w.mark * 48271 + 11) % 2147483647) * ((w.mark * 48271 + 11) % 2147483647) % 998244353 / 13 % n, { w with mark := (w.mark * 48271 + 11) % 2147483647 }, ?_, Int.emod_nonneg _ (by omega), Int.emod_lt_of_pos _ h0⟩
    · have e1 : (-18446744073709551616 < (w.mark * 48271 + 11) % 2147483647) := by omega
      have e2 : ((w.mark * 48271 + 11) % 2147483647 < 18446744073709551616) := by omega
      simp [drawTail, sSeq, sIf, sSet, sBx, sRet, sNil, tOf, eBin, eBx, eVar, eC, mMod, mDiv, mAdd, mMul, mI, isBox, bxGet, bxPut, hb, h0, hm0, hm1, e1, e2]
theorem draw_ok (w : Bx) (n : Int) (h0 : 0 < n) (h1 : n < 1073741824) : ∃ r w', m_L_draw [.box, .int n] w = .ok (.int r) w' ∧ 0 ≤ r ∧ r < n := by
  obtain ⟨c, p18, c0⟩ := pow18
  have e2 : eBx 0 2 [some (.dat .box), some (.dat (.int n)), none, none] w = .ok (.int w.big) w := rfl
  have e1 : eBx 0 1 [some (.dat .box), some (.dat (.int n)), none, none] w = .ok (.int (w.ix : Int)) w := rfl
  have e0 : eBx 0 0 [some (.dat .box), some (.dat (.int n)), none, none] w = .ok (.lst (w.cells.map D.int)) w := rfl
  have hlen : mLen [.lst (w.cells.map D.int)] = some (.int (w.cells.length : Int)) := by simp [mLen]
  have fin : ∀ (x : Option SV) (w1 : Bx), g_L_draw [some (.dat .box), some (.dat (.int n)), none, none] w = drawTail [some (.dat .box), some (.dat (.int n)), x, none] w1 → ∃ r w', m_L_draw [.box, .int n] w = .ok (.int r) w' ∧ 0 ≤ r ∧ r < n := fun x w1 e => by
    obtain ⟨r, w2, e2, h⟩ := draw_tail n h0 h1 x w1
    exact ⟨r, w2, x_run rfl (e.trans e2), h⟩
  by_cases h2 : w.big = 0
  · have t1 : tOf (eBin mEq (eBx 0 2) (eC (.int 0))) [some (.dat .box), some (.dat (.int n)), none, none] w = .ok true w := by
      refine x_tOf (x_bin e2 rfl ?_)
      simp [mEq, eqB, h2]
    by_cases h3 : w.ix < w.cells.length
    · have t2 : tOf (eBin mLt (eBx 0 1) (eB mLen (aCons (eBx 0 0) aNil))) [some (.dat .box), some (.dat (.int n)), none, none] w = .ok true w := by
        refine x_tOf (x_bin e1 (x_B (x_cons e0 x_nil) hlen) ?_)
        simp [mLt, h3]
      have hg : mIx (.lst (w.cells.map D.int)) (.int (w.ix : Int)) = some (.int w.cells[w.ix]) := atI_nat (by rw [List.getElem?_map, List.getElem?_eq_getElem h3]; rfl)
      have s1 : sSet 2 (eBin mIx (eBx 0 0) (eBx 0 1)) [some (.dat .box), some (.dat (.int n)), none, none] w = .nx [some (.dat .box), some (.dat (.int n)), some (.dat (.int w.cells[w.ix])), none] w := x_set (x_bin e0 e1 hg)
      have s2 : sBx 0 1 (eBin mAdd (eBx 0 1) (eC (.int 1))) [some (.dat .box), some (.dat (.int n)), some (.dat (.int w.cells[w.ix])), none] w = .nx [some (.dat .box), some (.dat (.int n)), some (.dat (.int w.cells[w.ix])), none] { w with ix := w.ix + 1 } := by
        refine x_sbx (x_bin (d := .int (w.ix : Int)) (e := .int 1) (z := .int ((w.ix : Int) + 1)) rfl rfl rfl) rfl ?_
        have q : (((w.ix : Int) + 1).toNat) = w.ix + 1 := by omega
        have q0 : 0 ≤ (w.ix : Int) + 1 := by omega
        simp [bxPut, q, q0]
      by_cases h4 : c ≤ w.cells[w.ix]
      · refine fin (some (.dat (.int w.cells[w.ix]))) { w with ix := w.ix + 1, big := w.cells[w.ix] } ?_
        refine x_seq (x_ifT (x_andT t1 t2) (x_seq s1 (x_seq s2 (x_ifT (x_tOf (x_bin rfl (x_bin rfl rfl p18) ?_)) (x_sbx rfl rfl ?_))))) rfl
        · simp [mI, h4]
        · have h5 : 0 ≤ w.cells[w.ix] := by omega
          simp [bxPut, h5]
      · refine fin (some (.dat (.int w.cells[w.ix]))) { w with ix := w.ix + 1, mark := (w.mark * 69621 + w.cells[w.ix] % 2147483563 + ((w.ix : Int) + 1) * 1597) % 2147483647 } ?_
        refine x_seq (x_ifT (x_andT t1 t2) (x_seq s1 (x_seq s2 (x_ifF (x_tOf (x_bin rfl (x_bin rfl rfl p18) ?_)) (x_sbx (x_bin (x_bin (x_bin (x_bin (d := .int w.mark) (e := .int 69621) rfl rfl (z := .int (w.mark * 69621)) ?_) (x_bin (d := .int w.cells[w.ix]) (e := .int 2147483563) rfl rfl (z := .int (w.cells[w.ix] % 2147483563)) ?_) (z := .int (w.mark * 69621 + w.cells[w.ix] % 2147483563)) rfl) (x_bin (d := .int ((w.ix : Int) + 1)) (e := .int 1597) rfl rfl (z := .int (((w.ix : Int) + 1) * 1597)) ?_) (z := .int (w.mark * 69621 + w.cells[w.ix] % 2147483563 + ((w.ix : Int) + 1) * 1597)) rfl) (e := .int 2147483647) (z := .int ((w.mark * 69621 + w.cells[w.ix] % 2147483563 + ((w.ix : Int) + 1) * 1597) % 2147483647)) rfl ?_) rfl ?_))))) rfl
        · simp [mI, h4]
        · simp [mMul]
        · simp [mMod]
        · simp [mMul]
        · simp [mMod]
        · have hm0 : 0 ≤ (w.mark * 69621 + w.cells[w.ix] % 2147483563 + ((w.ix : Int) + 1) * 1597) % 2147483647 := Int.emod_nonneg _ (by decide)
          have hm1 : (w.mark * 69621 + w.cells[w.ix] % 2147483563 + ((w.ix : Int) + 1) * 1597) % 2147483647 < 2147483647 := Int.emod_lt_of_pos _ (by decide)
          simp [bxPut, hm0, hm1]
    · have t2 : tOf (eBin mLt (eBx 0 1) (eB mLen (aCons (eBx 0 0) aNil))) [some (.dat .box), some (.dat (.int n)), none, none] w = .ok false w := by
        refine x_tOf (x_bin e1 (x_B (x_cons e0 x_nil) hlen) ?_)
        simp [mLt, h3]
      exact fin none w (x_seq (x_ifF (x_andT t1 t2) rfl) rfl)
  · have t1 : tOf (eBin mEq (eBx 0 2) (eC (.int 0))) [some (.dat .box), some (.dat (.int n)), none, none] w = .ok false w := by
      refine x_tOf (x_bin e2 rfl ?_)
      simp [mEq, eqB, h2]
    exact fin none w (x_seq (x_ifF (x_andF t1) rfl) rfl)

def g_L_any : SM := (sRet (eBin mIx (eVar 1) (eCall 2 m_L_draw (aCons (eVar 0) (aCons (eB mLen (aCons (eVar 1) aNil)) aNil)))))
def m_L_any : List D → Bx → R D := runF 2 2 g_L_any

theorem any_lst (w : Bx) (ds : List D) (h0 : ds ≠ []) (h1 : ds.length < 1073741824) : ∃ d w', d ∈ ds ∧ m_L_any [.box, .lst ds] w = .ok d w' := by
  have hp : 0 < ds.length := List.length_pos_iff.mpr h0
  obtain ⟨r, w', e, r0, r1⟩ := draw_ok w (ds.length : Int) (by omega) (by omega)
  have hr : r.toNat < ds.length := by omega
  have hx : mIx (.lst ds) (.int r) = some ds[r.toNat] := at_int r0 hr
  exact ⟨ds[r.toNat], w', List.getElem_mem hr, x_run rfl (x_ret (x_bin rfl (x_call (x_cons rfl (x_cons (x_B (x_cons rfl x_nil) rfl) x_nil)) rfl e) hx))⟩
theorem any_str (w : Bx) (l : List Nat) (h0 : l ≠ []) (h1 : l.length ≤ 16777216) : ∃ c w', c ∈ l ∧ m_L_any [.box, .str (tx l)] w = .ok (.str (tx [c])) w' := by
  have hp : 0 < l.length := List.length_pos_iff.mpr h0
  obtain ⟨r, w', e, r0, r1⟩ := draw_ok w (l.length : Int) (by omega) (by omega)
  have hr : r.toNat < l.length := by omega
  have hx : mIx (.str (tx l)) (.int r) = some (.str (tx [l[r.toNat]])) := by
    unfold mIx
    simp only [tx_len, tx_list]
    rw [if_pos (show l.length ≤ sizeN from h1), at_int r0 hr]
    rfl
  have hl : mLen [.str (tx l)] = some (.int (l.length : Int)) := by
    unfold mLen
    simp only [tx_len]
    rw [if_pos (show l.length ≤ sizeN from h1)]
  exact ⟨l[r.toNat], w', List.getElem_mem hr, x_run rfl (x_ret (x_bin rfl (x_call (x_cons rfl (x_cons (x_B (x_cons rfl x_nil) hl) x_nil)) rfl e) hx))⟩

def g_L_place : SM := (sRet (eTup (aCons (eCall 2 m_L_any (aCons (eVar 0) (aCons (eC (.str "ab")) aNil))) (aCons (eBin mAdd (eC (.int 1)) (eCall 2 m_L_draw (aCons (eVar 0) (aCons (eC (.int 2)) aNil)))) (aCons (eCall 2 m_L_any (aCons (eVar 0) (aCons (eFrz (oLst (aCons (eC (.str "front")) (aCons (eC (.str "back")) aNil)))) aNil))) aNil)))))
def m_L_place : List D → Bx → R D := runF 1 1 g_L_place

theorem place_ok (w : Bx) : ∃ p w', m_L_place [.box] w = .ok (plD p) w' ∧ PlOk p ∧ p.n ≤ 2 := by
  obtain ⟨c, w1, hc, e1⟩ := any_str w [97, 98] (by simp) (by simp)
  obtain ⟨r, w2, e2, r0, r1⟩ := draw_ok w1 2 (by decide) (by decide)
  obtain ⟨d, w3, hd, e3⟩ := any_lst w2 [.str "front", .str "back"] (by simp) (by simp)
  obtain ⟨fr, rfl⟩ : ∃ fr, d = .str (endS fr) := by
    simp only [List.mem_cons, List.not_mem_nil, or_false] at hd
    rcases hd with rfl | rfl
    · exact ⟨true, rfl⟩
    · exact ⟨false, rfl⟩
  obtain ⟨n, rfl⟩ : ∃ n : Nat, r = n := ⟨r.toNat, by omega⟩
  refine ⟨⟨c, n + 1, fr⟩, w3, ?_, ⟨by simpa [AB] using hc, by simp, by show n + 1 ≤ 3; omega⟩, by show n + 1 ≤ 2; omega⟩
  refine x_run rfl (x_ret ?_)
  rw [← lit_ab] at e1
  have h1 : mAdd (.int 1) (.int (n : Int)) = some (.int ((n + 1 : Nat) : Int)) := by simp [mAdd]; omega
  walk_at "y_ev"

def g_L_edit : SM := (sSeq (sSet 1 (eCall 2 m_L_any (aCons (eVar 0) (aCons (eFrz (oLst (aCons (eC (.str "keep")) (aCons (eC (.str "prepend")) (aCons (eC (.str "append")) (aCons (eC (.str "before")) (aCons (eC (.str "after")) (aCons (eC (.str "remove")) (aCons (eC (.str "flip")) (aCons (eC (.str "remove")) (aCons (eC (.str "flip")) aNil))))))))))) aNil))))
    (sSeq (sIf (tOf (eBin mEq (eVar 1) (eC (.str "keep")))) (sRet (eTup (aCons (eVar 1) aNil))) sNil)
    (sSeq (sIf (tOf (eBin mIn (eVar 1) (eTup (aCons (eC (.str "prepend")) (aCons (eC (.str "append")) aNil))))) (sRet (eTup (aCons (eVar 1) (aCons (eCall 2 m_L_any (aCons (eVar 0) (aCons (eC (.str "ab")) aNil))) aNil)))) sNil)
    (sSeq (sSet 2 (eCall 1 m_L_place (aCons (eVar 0) aNil)))
    (sRet (eIf (tOf (eBin mIn (eVar 1) (eTup (aCons (eC (.str "before")) (aCons (eC (.str "after")) aNil))))) (eTup (aCons (eVar 1) (aCons (eVar 2) (aCons (eCall 2 m_L_any (aCons (eVar 0) (aCons (eC (.str "ab")) aNil))) aNil)))) (eTup (aCons (eVar 1) (aCons (eVar 2) aNil)))))))))
def m_L_edit : List D → Bx → R D := runF 1 3 g_L_edit

theorem edit_ok2 (w : Bx) : ∃ e w', m_L_edit [.box] w = .ok (edD e) w' ∧ EdOk e ∧ Ed2 e := by
  obtain ⟨d, w1, hd, e1⟩ := any_lst w [.str "keep", .str "prepend", .str "append", .str "before", .str "after", .str "remove", .str "flip", .str "remove", .str "flip"] (by simp) (by simp)
  obtain ⟨c, w2, hc, e2⟩ := any_str w1 [97, 98] (by simp) (by simp)
  obtain ⟨p, w3, e3, hp, hp2⟩ := place_ok w1
  obtain ⟨c4, w4, hc4, e4⟩ := any_str w3 [97, 98] (by simp) (by simp)
  rw [← lit_ab] at e2 e4
  have hc : AB c := by simpa [AB] using hc
  have hc4 : AB c4 := by simpa [AB] using hc4
  simp only [List.mem_cons, List.not_mem_nil, or_false] at hd
  rcases hd with rfl | rfl | rfl | rfl | rfl | rfl | rfl | rfl | rfl
  · exact ⟨.keep, w1, x_run rfl (by unfold g_L_edit; walk_at "y_ev"), trivial, trivial⟩
  · exact ⟨.pre c, w2, x_run rfl (by unfold g_L_edit; walk_at "y_ev"), hc, trivial⟩
  · exact ⟨.app c, w2, x_run rfl (by unfold g_L_edit; walk_at "y_ev"), hc, trivial⟩
  · exact ⟨.at_ (.bef c4) p, w4, x_run rfl (by unfold g_L_edit; walk_at "y_ev"), ⟨hc4, hp⟩, hp2⟩
  · exact ⟨.at_ (.aft c4) p, w4, x_run rfl (by unfold g_L_edit; walk_at "y_ev"), ⟨hc4, hp⟩, hp2⟩
  · exact ⟨.at_ .rem p, w3, x_run rfl (by unfold g_L_edit; walk_at "y_ev"), ⟨trivial, hp⟩, hp2⟩
  · exact ⟨.at_ .flp p, w3, x_run rfl (by unfold g_L_edit; walk_at "y_ev"), ⟨trivial, hp⟩, hp2⟩
  · exact ⟨.at_ .rem p, w3, x_run rfl (by unfold g_L_edit; walk_at "y_ev"), ⟨trivial, hp⟩, hp2⟩
  · exact ⟨.at_ .flp p, w3, x_run rfl (by unfold g_L_edit; walk_at "y_ev"), ⟨trivial, hp⟩, hp2⟩
def g_L_edits : SM := (sRet (eFrz (oLc (iBy rngOf (aCons (eCall 2 m_L_draw (aCons (eVar 0) (aCons (eBin mAdd (eVar 1) (eC (.int 1))) aNil))) aNil)) (gSet 2) tYesM (eCall 1 m_L_edit (aCons (eVar 0) aNil)) [2])))
def m_L_edits : List D → Bx → R D := runF 2 3 g_L_edits

theorem edits_ok (w : Bx) (n : Nat) (hn : n ≤ 1000) : ∃ (es : List Ed) (w' : Bx), m_L_edits [.box, .int (n : Int)] w = .ok (.lst (es.map edD)) w' ∧ es.length ≤ n ∧ ∀ e ∈ es, Ed12 e := by
  obtain ⟨r, w1, e1, r0, r1⟩ := draw_ok w ((n : Int) + 1) (by omega) (by omega)
  obtain ⟨ys, w2, e2, h1, h2⟩ := x_lcP (S := wipeS (startS 3 [.box, .int (n : Int)]) [2]) (gm := gSet 2) (em := eCall 1 m_L_edit (aCons (eVar 0) aNil)) (fun y => ∃ e, y = edD e ∧ Ed12 e) (upFrom 0 r.toNat) w1 (fun x _ w => by
    obtain ⟨e, w', q1, q2, q3⟩ := edit_ok2 w
    exact ⟨_, _, w', rfl, x_call (x_cons rfl x_nil) rfl q1, e, rfl, q2, q3⟩)
  obtain ⟨es, rfl, hes⟩ := list_ex ys h2
  have hl : es.length = r.toNat := by
    have := h1
    rw [List.length_map] at this
    rw [this]; simp [upFrom]
  refine ⟨es, w2, x_run rfl (x_ret (x_frz (x_lc (x_by (x_cons (x_call (x_cons rfl (x_cons (x_bin rfl rfl rfl) x_nil)) rfl e1) x_nil) (rng_ok r0 (by omega))) ?_ e2))), by omega, hes⟩
  simp [upFrom]; show _ ≤ 16777216; omega

def g_L_whole : SM := (sRet (eAndM (e1 (mIsi "int") (eVar 0)) (eNotM (e1 (mIsi "bool") (eVar 0)))))
def m_L_whole : List D → Bx → R D := runF 1 1 g_L_whole

def g_L_same (mr : List D → Bx → R D) : SM := (sSeq (sIf (tOf (eBin mIs (eVar 1) (eC .non))) (sRet (eBin mIs (eVar 0) (eC .non))) sNil)
    (sSeq (sIf (tOf (e1 (mIsi "bool") (eVar 1))) (sRet (eAndM (e1 (mIsi "bool") (eVar 0)) (eBin mEq (eVar 0) (eVar 1)))) sNil)
    (sSeq (sIf (tOf (e1 (mIsi "int") (eVar 1))) (sRet (eAndM (eCall 1 m_L_whole (aCons (eVar 0) aNil)) (eBin mEq (eVar 0) (eVar 1)))) sNil)
    (sSeq (sIf (tOf (e1 (mIsi "str") (eVar 1))) (sRet (eAndM (e1 (mIsi "str") (eVar 0)) (eBin mEq (eVar 0) (eVar 1)))) sNil)
    (sSeq (sIf (tAndM (tOf (e1 (mIsi "tuple") (eVar 1))) (tNotM (tOf (e1 (mIsi "tuple") (eVar 0))))) (sRet (eC (.bl false))) sNil)
    (sSeq (sIf (tAndM (tOf (e1 (mIsi "list") (eVar 1))) (tNotM (tOf (e1 (mIsi "list") (eVar 0))))) (sRet (eC (.bl false))) sNil)
    (sRet (eAndM (eBin mEq (eB mLen (aCons (eVar 0) aNil)) (eB mLen (aCons (eVar 1) aNil))) (eB mAll (aCons (eFrz (oLc (iBy zipOf (aCons (eVar 0) (aCons (eVar 1) aNil))) (gTupM (gsCons (gSet 2) (gsCons (gSet 3) gsNil))) tYesM (eCall 2 mr (aCons (eVar 2) (aCons (eVar 3) aNil))) [2, 3])) aNil))))))))))

theorem mSame_zero (ds : List D) (w : Bx) : mSame 0 ds w = .bad := by
  unfold mSame
  split
  · simp [sameD]
  · rfl
theorem all_true (n : Nat) : blsOf (List.replicate n (D.bl true)) = some (List.replicate n true) := by
  induction n with
  | zero => rfl
  | succ n ih => rw [List.replicate_succ, blsOf, ih]; rfl
theorem all_reps (n : Nat) : (List.replicate n true).all id = true := by
  induction n with
  | zero => rfl
  | succ n ih => rw [List.replicate_succ, List.all_cons, ih]; rfl
theorem zip_same (k : Nat) (S : SL) (hS : S.length = 4) (w : Bx) : ∀ (a b : List D), ((a.zip b).all fun p => sameD k p.1 p.2) = true →
    lcLoop (gTupM (gsCons (gSet 2) (gsCons (gSet 3) gsNil))) tYesM (eCall 2 (mSame k) (aCons (eVar 2) (aCons (eVar 3) aNil))) S (zipD a b) w = .ok (List.replicate (a.zip b).length (.bl true)) w
  | [], _, _ => rfl
  | _ :: _, [], _ => rfl
  | x :: a, y :: b, h => by
    rw [List.zip_cons_cons, List.all_cons, Bool.and_eq_true] at h
    have ih := zip_same k S hS w a b h.2
    obtain ⟨s0, s1, s2, s3, rfl⟩ : ∃ s0 s1 s2 s3, S = [s0, s1, s2, s3] := by
      match S, hS with
      | [s0, s1, s2, s3], _ => exact ⟨s0, s1, s2, s3, rfl⟩
    refine x_lcC (e := .bl true) (w2 := w) rfl rfl ?_ ih
    refine x_call (x_cons rfl (x_cons rfl x_nil)) rfl ?_
    show (if sameD k x y then R.ok (D.bl true) w else .bad) = _
    rw [if_pos h.1]
theorem same_ok (k : Nat) : ∀ ds w, mSame (k + 1) ds w ≠ .bad → runF 2 4 (g_L_same (mSame k)) ds w = mSame (k + 1) ds w := by
  intro ds w h
  match ds, h with
  | [d, e], h =>
    have hs : sameD (k + 1) d e = true := by
      cases hq : sameD (k + 1) d e with
      | true => rfl
      | false =>
        have : mSame (k + 1) [d, e] w = .bad := by show (if sameD (k + 1) d e then R.ok (D.bl true) w else .bad) = _; rw [hq]; rfl
        exact absurd this h
    have hr : mSame (k + 1) [d, e] w = .ok (.bl true) w := by show (if sameD (k + 1) d e then R.ok (D.bl true) w else .bad) = _; rw [if_pos hs]
    rw [hr]
    cases d <;> cases e <;> first | (exact absurd (show false = true from hs) Bool.false_ne_true) | skip
    case non.non => exact x_run rfl (x_seqR (x_ifT (x_tOf (x_bin rfl rfl rfl)) (x_ret (x_bin rfl rfl rfl))))
    case bl.bl a b =>
      have e : a = b := eq_of_beq hs
      subst e
      refine x_run rfl (x_seq (x_ifF (x_tOf (x_bin rfl rfl rfl)) rfl) (x_seqR (x_ifT (x_tOf (x_e1 rfl rfl)) (x_ret (x_eandT (x_e1 rfl rfl) (x_bin rfl rfl ?_))))))
      simp [mEq, eqB]
    case int.int a b =>
      have e : a = b := eq_of_beq hs
      subst e
      refine x_run rfl (x_seq (x_ifF (x_tOf (x_bin rfl rfl rfl)) rfl) (x_seq (x_ifF (x_tOf (x_e1 rfl rfl)) rfl) (x_seqR (x_ifT (x_tOf (x_e1 rfl rfl)) (x_ret (x_eandT (x_call (x_cons rfl x_nil) rfl (r := .ok (.bl true) w) ?_) (x_bin rfl rfl ?_)))))))
      · exact x_run rfl (x_ret (x_eandT (x_e1 rfl rfl) (x_enotF (x_e1 rfl rfl))))
      · simp [mEq, eqB]
    case str.str a b =>
      have e : a = b := eq_of_beq hs
      subst e
      refine x_run rfl (x_seq (x_ifF (x_tOf (x_bin rfl rfl rfl)) rfl) (x_seq (x_ifF (x_tOf (x_e1 rfl rfl)) rfl) (x_seq (x_ifF (x_tOf (x_e1 rfl rfl)) rfl) (x_seqR (x_ifT (x_tOf (x_e1 rfl rfl)) (x_ret (x_eandT (x_e1 rfl rfl) (x_bin rfl rfl ?_))))))))
      simp [mEq, eqB]
    case lst.lst a b =>
      have h2 : ((a.length == b.length && decide (a.length ≤ sizeN)) && (a.zip b).all fun p => sameD k p.1 p.2) = true := hs
      rw [Bool.and_eq_true, Bool.and_eq_true] at h2
      have hl : a.length = b.length := eq_of_beq h2.1.1
      have hz : a.length ≤ sizeN := of_decide_eq_true h2.1.2
      refine x_run rfl (x_seq (x_ifF (x_tOf (x_bin rfl rfl rfl)) rfl) (x_seq (x_ifF (x_tOf (x_e1 rfl rfl)) rfl) (x_seq (x_ifF (x_tOf (x_e1 rfl rfl)) rfl) (x_seq (x_ifF (x_tOf (x_e1 rfl rfl)) rfl) (x_seq (x_ifF (x_andF (x_tOf (x_e1 rfl rfl))) rfl) (x_seq (x_ifF (x_andT (x_tOf (x_e1 rfl rfl)) (x_notT (x_tOf (x_e1 rfl rfl)))) rfl) (x_ret (x_eandT (x_bin (x_B (x_cons rfl x_nil) rfl) (x_B (x_cons rfl x_nil) rfl) ?_) (x_B (x_cons (x_frz (x_lc (x_by (x_cons rfl (x_cons rfl x_nil)) rfl) ?_ (zip_same k _ rfl w a b h2.2))) x_nil) ?_)))))))))
      · simp [mEq, eqB, hl]
      · simp only [zipD, List.length_map, List.length_zip]; omega
      · show (blsOf _).map _ = _
        rw [all_true]
        simp [all_reps]
    case tup.tup a b =>
      have h2 : ((a.length == b.length && decide (a.length ≤ sizeN)) && (a.zip b).all fun p => sameD k p.1 p.2) = true := hs
      rw [Bool.and_eq_true, Bool.and_eq_true] at h2
      have hl : a.length = b.length := eq_of_beq h2.1.1
      have hz : a.length ≤ sizeN := of_decide_eq_true h2.1.2
      refine x_run rfl (x_seq (x_ifF (x_tOf (x_bin rfl rfl rfl)) rfl) (x_seq (x_ifF (x_tOf (x_e1 rfl rfl)) rfl) (x_seq (x_ifF (x_tOf (x_e1 rfl rfl)) rfl) (x_seq (x_ifF (x_tOf (x_e1 rfl rfl)) rfl) (x_seq (x_ifF (x_andT (x_tOf (x_e1 rfl rfl)) (x_notT (x_tOf (x_e1 rfl rfl)))) rfl) (x_seq (x_ifF (x_andF (x_tOf (x_e1 rfl rfl))) rfl) (x_ret (x_eandT (x_bin (x_B (x_cons rfl x_nil) rfl) (x_B (x_cons rfl x_nil) rfl) ?_) (x_B (x_cons (x_frz (x_lc (x_by (x_cons rfl (x_cons rfl x_nil)) rfl) ?_ (zip_same k _ rfl w a b h2.2))) x_nil) ?_)))))))))
      · simp [mEq, eqB, hl]
      · simp only [zipD, List.length_map, List.length_zip]; omega
      · show (blsOf _).map _ = _
        rw [all_true]
        simp [all_reps]
  | [], h => exact absurd rfl h
  | [_], h => exact absurd rfl h
  | _ :: _ :: _ :: _, h => exact absurd rfl h

def g_Script___add__ : SM := (sSeq (sSet 2 (eBin mAdd (e1 (fldD "Script" "kept") (eVar 0)) (e1 (fldD "Script" "kept") (eVar 1))))
    (sRet (eMake "Script" (nLe 1000) m_Script___init__ (aStar (eVar 2)))))
def m_Script___add__ : List D → Bx → R D := runF 2 3 g_Script___add__

theorem add_sc (a b : List Ed) (ha : ∀ e ∈ a, Ed12 e) (hb : ∀ e ∈ b, Ed12 e) (hn : a.length + b.length ≤ 4) (w : Bx) : m_Script___add__ [scD a, scD b] w = .ok (scD (a ++ b)) w := by
  have e1 : mAdd (.lst (a.map edD)) (.lst (b.map edD)) = some (.lst ((a ++ b).map edD)) := by rw [List.map_append]; exact addL (by simp; omega)
  exact x_run rfl (p_seq (x_set (d := .lst ((a ++ b).map edD)) (w1 := w) (p_bin (x_e1 rfl (sc_kept _)) (x_e1 rfl (sc_kept _)) e1)) (x_ret (x_mkSc (x_star rfl rfl) (fun e he => (List.mem_append.mp he).elim (ha e) (hb e)) (by rw [List.length_append]; exact hn))))
theorem x_addSc {fa fb : EM} {S : SL} {w w1 w2 : Bx} {a b : List Ed} (h1 : fa S w = .ok (scD a) w1) (h2 : fb S w1 = .ok (scD b) w2) (ha : ∀ e ∈ a, Ed12 e) (hb : ∀ e ∈ b, Ed12 e) (hn : a.length + b.length ≤ 4) : eOwn "Script" m_Script___add__ fa fb S w = .ok (scD (a ++ b)) w2 :=
  x_own h1 h2 (by rw [show isCls "Script" (scD a) = true from cls_self _ _, show isCls "Script" (scD b) = true from cls_self _ _]; rfl) (add_sc a b ha hb hn w2)
def lb_L_script_0 : SM := (sSet 1 (eOwn "Script" m_Script___add__ (eVar 1) (eMake "Script" (nLe 1000) m_Script___init__ (aCons (eVar 2) aNil))))
def g_L_script : SM := (sSeq (sSet 1 (eMake "Script" (nLe 1000) m_Script___init__ aNil))
    (sSeq (sFor (iAny (eVar 0)) (gSet 2) lb_L_script_0)
    (sRet (eVar 1))))
def m_L_script : List D → Bx → R D := runF 1 3 g_L_script

theorem script_ok (es : List Ed) (he : ∀ e ∈ es, Ed12 e) (hn : es.length ≤ 4) (w : Bx) : m_L_script [.lst (es.map edD)] w = .ok (scD es) w := by
  obtain ⟨S2, w2, e2, rfl, done, s2, rfl, h1, h2⟩ := x_forI (f := edD) (gm := gSet 2) (body := lb_L_script_0) (fun rest S w' => w' = w ∧ ∃ done s2, S = [some (.dat (.lst (es.map edD))), some (.dat (scD done)), s2] ∧ done ++ rest = es ∧ ∀ e ∈ done ++ rest, Ed12 e) (fun e rest S w' h => by
    obtain ⟨rfl, done, s2, rfl, h1, h2⟩ := h
    have hl : done.length + (rest.length + 1) = es.length := by rw [← h1]; simp
    refine ⟨[some (.dat (.lst (es.map edD))), some (.dat (scD done)), some (.dat (edD e))], [some (.dat (.lst (es.map edD))), some (.dat (scD (done ++ [e]))), some (.dat (edD e))], w', rfl, x_set (x_addSc (w1 := w') rfl (x_mkSc (es := [e]) (p_cons rfl x_nil) (fun x hx => ?_) (by simp)) (fun x hx => h2 x (List.mem_append_left _ hx)) (fun x hx => ?_) (by simp; omega)), rfl, done ++ [e], _, rfl, ?_, ?_⟩
    · rw [List.mem_singleton.mp hx]; exact h2 e (by simp)
    · rw [List.mem_singleton.mp hx]; exact h2 e (by simp)
    · rw [List.append_assoc]; exact h1
    · rw [List.append_assoc]; exact h2) es [some (.dat (.lst (es.map edD))), some (.dat (scD [])), none] w ⟨rfl, [], none, rfl, rfl, he⟩
  rw [List.append_nil] at h1
  subst h1
  exact x_run rfl (p_seq (x_set (d := scD []) (w1 := w2) (x_mkSc (es := []) rfl (fun _ h => nomatch h) (by simp))) (p_seq (x_for (p_any rfl rfl) e2) (x_ret rfl)))

def g_L_spelled_all : SM := (sRet (eM1 mJoin (eC (.str "; ")) (eFrz (oLc (iAny (eVar 0)) (gSet 1) tYesM (eCall 1 m_L_spelled (aCons (eVar 1) aNil)) [1]))))
def m_L_spelled_all : List D → Bx → R D := runF 1 2 g_L_spelled_all

theorem spelled_all_ok {es : List Ed} (h : ∀ e ∈ es, Ed12 e) (hn : es.length ≤ 100) (w : Bx) : m_L_spelled_all [.lst (es.map edD)] w = .ok (.str (txE es)) w := by
  have lc := x_lcT (S := wipeS [some (.dat (.lst (es.map edD))), none] [1]) (gm := gSet 1) (em := eCall 1 m_L_spelled (aCons (eVar 1) aNil)) edD (fun e => .str (edS e)) es w (fun e he => ⟨_, rfl, x_call (p_cons rfl x_nil) rfl (spl_ok (mem_shelf (h e he)) w)⟩)
  exact x_run rfl (x_ret (x_m1 (w1 := w) (w2 := w) x_C (x_frz (p_lc (p_any rfl rfl) (by rw [List.length_map]; show _ ≤ 16777216; omega) lc)) (join_eds (fun e he => mem_shelf (h e he)) hn).1))

def lt_law : SM := (sSeq (sSetO 6 (oLc (iBy rngOf (aCons (eBin mAdd (eC (.int 1)) (eCall 2 m_L_draw (aCons (eVar 1) (aCons (eC (.int 6)) aNil)))) aNil)) (gSet 10) tYesM (eCall 1 m_L_spelled (aCons (eCall 1 m_L_edit (aCons (eVar 1) aNil)) aNil)) [10]))
    (sSeq (sSet 7 (eCall 2 m_L_draw (aCons (eVar 1) (aCons (eLenO 6) aNil))))
    (sSeq (sSet 8 (eIf (tOf (eBin (mI fun i j => decide (j < i)) (eLenO 6) (eC (.int 4)))) (eTup (aCons (eC (.str "TooLong")) (aCons (eC (.int 4)) aNil))) (eTup (aCons (eC (.str "")) (aCons (eC .non) aNil)))))
    (sSeq (sIf (tOf (eBin mEq (eCall 2 m_L_draw (aCons (eVar 1) (aCons (eC (.int 2)) aNil))) (eC (.int 0)))) (sSeq (sPut 6 (eVar 7) (eCall 2 m_L_any (aCons (eVar 1) (aCons (eFrz (oLst (aCons (eC (.str "")) (aCons (eC (.str "keep ")) (aCons (eC (.str " keep")) (aCons (eC (.str "flip a 1")) (aCons (eC (.str "keep;")) (aCons (eC (.str "prepend a b")) (aCons (eC (.str "Keep")) aNil))))))))) aNil))))
    (sSeq (sSet 8 (eTup (aCons (eC (.str "ParseError")) (aCons (eVar 7) aNil))))
    (sIf (tAndM (tOf (eBin mEq (eLenO 6) (eC (.int 1)))) (tOf (eBin mEq (eIxO 6 (eC (.int 0))) (eC (.str ""))))) (sSet 8 (eTup (aCons (eC (.str "")) (aCons (eC .non) aNil)))) sNil))) sNil)
    (sSeq (sFrz 6 (sSet 9 (eM1 mJoin (eC (.str "; ")) (eVar 6))))
    (sIf (tOf (eBin mNe (eRef refTbl (eCall 1 m_Script_read (aCons (eVar 9) aNil))) (eVar 8))) (sRet (eC (.bl false))) sNil))))))
def lb_law_0 : SM := (sSeq (sSet 3 (eCall 2 m_L_edits (aCons (eVar 1) (aCons (eC (.int 4)) aNil))))
    (sSeq (sSet 4 (eCall 1 m_L_spelled_all (aCons (eVar 3) aNil)))
    (sSeq (sSet 5 (eCall 1 (noEr m_Script_read) (aCons (eVar 4) aNil)))
    (sSeq (sIf (tOrM (tNotM (tOf (e1 (mIsG isg_Script) (eVar 5)))) (tNotM (tOf (eCall 2 (mSame 8) (aCons (eFrz (oLst (aCons (eMeth "Script" "edits" 1 m_Script_edits (eVar 5) aNil) (aCons (eMeth "Script" "text" 1 m_Script_text (eVar 5) aNil) aNil)))) (aCons (eFrz (oLst (aCons (eVar 3) (aCons (eVar 4) aNil)))) aNil)))))) (sRet (eC (.bl false))) sNil)
    (sSeq (sIf (tNotM (tOf (eCall 2 (mSame 8) (aCons (eMeth "Script" "text" 1 m_Script_text (eCall 1 m_L_script (aCons (eVar 3) aNil)) aNil) (aCons (eVar 4) aNil))))) (sRet (eC (.bl false))) sNil)
    lt_law)))))
def g_law : SM := (sSeq (sFor (iBy rngOf (aCons (eC (.int 5)) aNil)) (gSet 2) lb_law_0)
    (sRet (eAndM (eBin mEq (eRef refTbl (eCall 1 m_Script_read (aCons (eC (.str "keep;keep")) aNil))) (eTup (aCons (eC (.str "ParseError")) (aCons (eC (.int 0)) aNil)))) (eBin mEq (eLenI "Script" m_Script___len__ (eCall 1 (noEr m_Script_read) (aCons (eC (.str "")) aNil))) (eC (.int 0))))))

theorem ref_pe : refTbl.lookup ("ParseError" : Str) = some ("at" : Str) := by decide +kernel
theorem ref_tl : refTbl.lookup ("TooLong" : Str) = some ("most" : Str) := by decide +kernel
def badS : List Str := ["", "keep ", " keep", "flip a 1", "keep;", "prepend a b", "Keep"]
theorem bad_all : (badS.all fun b => (shelfL.find? fun x => decide (edS x = b)).isNone && (noPair 59 32 b.cps.toList && decide (b.length ≤ 40))) = true := by kernel_rfl
theorem bad_of {b : Str} (h : b ∈ badS) : BadT b := by
  have := List.all_eq_true.mp bad_all b h
  rw [Bool.and_eq_true, Bool.and_eq_true] at this
  exact ⟨Option.isNone_iff_eq_none.mp this.1, this.2.1, of_decide_eq_true this.2.2⟩
theorem kk_all : ((shelfL.find? fun x => decide (edS x = "keep;keep")).isNone && (noPair 59 32 ("keep;keep" : Str).cps.toList && decide (("keep;keep" : Str).length ≤ 40))) = true := by kernel_rfl
theorem kk_bad : BadT "keep;keep" := by
  have := kk_all
  rw [Bool.and_eq_true, Bool.and_eq_true] at this
  exact ⟨Option.isNone_iff_eq_none.mp this.1, this.2.1, of_decide_eq_true this.2.2⟩
def PartOk (p : Str) : Prop := noPair 59 32 p.cps.toList = true ∧ p.length ≤ 40
theorem part_ed {e : Ed} (h : Ed12 e) : PartOk (edS e) := ⟨(edS_ok (mem_shelf h)).1, (edS_ok (mem_shelf h)).2.2⟩
theorem part_bad {b : Str} (h : BadT b) : PartOk b := ⟨h.np, h.le⟩
theorem semi_l : ("; " : Str).length = 2 := by decide +kernel
theorem semi_c : ("; " : Str).cps.toList = [59, 32] := by decide +kernel
theorem semi_k : Builtin.Str.strKind ("; " : Str) = 1 := by decide +kernel
theorem join_ne {ps : List Str} (h1 : ps ≠ []) (h2 : ps ≠ [("" : Str)]) : Txt.join "; " ps ≠ "" := fun e => by
  have ej : Txt.join "; " ps = Str.join "; " ps := StrLaws.glued_eq_join _ ps
  rw [ej] at e
  match ps, h1, h2, e with
  | [p], _, h2, e => exact h2 (by rw [show p = "" from e])
  | p :: q :: r, _, _, e =>
    have e : p ++ "; " ++ Str.join "; " (q :: r) = "" := e
    have := congrArg Str.length e
    rw [Str.length_append, Str.length_append, semi_l] at this
    have z : ("" : Str).length = 0 := by decide +kernel
    omega
theorem join_ps {ps : List Str} (h : ∀ p ∈ ps, PartOk p) (hn : ps.length ≤ 100) : mJoin (.str "; ") (.lst (ps.map D.str)) = some (.str (Txt.join "; " ps)) ∧ (Txt.join "; " ps).length ≤ 4300 := by
  have s := sum_40 ps fun z hz => (h z hz).2
  constructor
  · unfold mJoin
    simp only [strs_mapE, Option.bind_some]
    unfold joinS
    rw [semi_l, if_pos (show _ ≤ sizeN from by unfold sizeN; omega)]
  · have := len_join (g := "; ") (ys := ps)
    rw [semi_l] at this
    omega
theorem parts_split {ps : List Str} (h : ∀ p ∈ ps, PartOk p) (hn : ps.length ≤ 100) (h1 : ps ≠ []) (h2 : ps ≠ [("" : Str)]) : Txt.join "; " ps ≠ "" ∧ Txt.split (Txt.join "; " ps) "; " = ps ∧ (Txt.join "; " ps).length ≤ 100000 :=
  ⟨join_ne h1 h2, split_join semi_k (by rw [semi_l]; decide) h1 fun p hp => by rw [semi_c]; exact clean_pair (by decide) (h p hp).1, by have := (join_ps h hn).2; omega⟩
theorem eds_split {es : List Ed} (h : ∀ e ∈ es, Ed12 e) (hn : es.length ≤ 100) : (txE es = "" ∧ es.map edS = []) ∨ (txE es ≠ "" ∧ Txt.split (txE es) "; " = es.map edS ∧ (txE es).length ≤ 100000) := by
  cases es with
  | nil => exact .inl ⟨rfl, rfl⟩
  | cons e es =>
    refine .inr (parts_split (fun p hp => ?_) (by rw [List.length_map]; exact hn) (by simp) fun z => ?_)
    · obtain ⟨x, hx, rfl⟩ := List.mem_map.mp hp
      exact part_ed (h x hx)
    · rw [List.map_cons, List.cons.injEq] at z
      have := (edS_ok (mem_shelf (h e List.mem_cons_self))).2.1
      rw [z.1] at this
      exact absurd this (by decide +kernel)
theorem list_exS {P : Ed → Prop} : ∀ (ys : List D), (∀ y ∈ ys, ∃ e, y = .str (edS e) ∧ P e) → ∃ es : List Ed, ys = (es.map edS).map D.str ∧ ∀ e ∈ es, P e
  | [], _ => ⟨[], rfl, fun _ h => nomatch h⟩
  | y :: ys, h => by
    obtain ⟨e, he, hp⟩ := h y List.mem_cons_self
    obtain ⟨es, h1, h2⟩ := list_exS ys fun z hz => h z (List.mem_cons_of_mem _ hz)
    refine ⟨e :: es, by rw [he, h1]; rfl, fun z hz => ?_⟩
    rcases List.mem_cons.mp hz with rfl | hz
    · exact hp
    · exact h2 z hz
theorem plain_edL (es : List Ed) (h : es.length ≤ 1000) (n : Nat) : plainD (n + 4) (.lst (es.map edD)) := ⟨by rw [List.length_map]; omega, fun x hx => by
  obtain ⟨e, _, rfl⟩ := List.mem_map.mp hx
  exact plain_ed e n⟩
theorem due_ne {T : Str} {d : D} (hs : PyData.strOk T = true) (hd : niceN 1 d) (r : rig d = true) : mNe (.tup [.str T, d]) (.tup [.str T, d]) = some (.bl false) :=
  ne_tag (n := 1) hs hd (by decide) r
def IS (S : SL) : Prop := ∃ s0 s2 s3 s4 s5 s6 s7 s8 s9 s10 : Option SV, S = [s0, some (.dat .box), s2, s3, s4, s5, s6, s7, s8, s9, s10]
/-- the end of a turn: what is read of the joined parts -/
theorem tail_ok (s0 s2 s3 s4 s5 s7 s9 s10 : Option SV) {w : Bx} {ps : List Str} {due : D} (hp : ∀ p ∈ ps, PartOk p) (hn : ps.length ≤ 100)
    (hr : eRef refTbl (eCall 1 m_Script_read (aCons (eVar 9) aNil)) [s0, some (.dat .box), s2, s3, s4, s5, some (.dat (.lst (ps.map D.str))), s7, some (.dat due), some (.dat (.str (Txt.join "; " ps))), s10] w = .ok due w) (hd : mNe due due = some (.bl false)) :
    ∃ S2, (sSeq (sFrz 6 (sSet 9 (eM1 mJoin (eC (.str "; ")) (eVar 6)))) (sIf (tOf (eBin mNe (eRef refTbl (eCall 1 m_Script_read (aCons (eVar 9) aNil))) (eVar 8))) (sRet (eC (.bl false))) sNil)) [s0, some (.dat .box), s2, s3, s4, s5, some (.own (ps.map D.str)), s7, some (.dat due), s9, s10] w = .nx S2 w ∧ IS S2 :=
  ⟨_, p_seq (x_frzS (x_set (x_m1 (w1 := w) (w2 := w) x_C (x_var rfl) (join_ps hp hn).1))) (x_ifF (x_tOf (x_bin hr rfl hd)) rfl), _, _, _, _, _, _, _, _, _, _, rfl⟩
theorem part_set {es : List Ed} {b : Str} {j : Nat} (hj : j < es.length) : (es.map edS).set j b = (es.take j).map edS ++ b :: (es.drop (j + 1)).map edS := by
  rw [List.set_eq_take_append_cons_drop, if_pos (by rw [List.length_map]; exact hj), List.map_take, List.map_drop]
theorem turn_ok (S : SL) (w : Bx) (h : IS S) : ∃ S2 w2, lb_law_0 S w = .nx S2 w2 ∧ IS S2 := by
  obtain ⟨s0, s2, s3, s4, s5, s6, s7, s8, s9, s10, rfl⟩ := h
  obtain ⟨es, w1, e1, hl, he⟩ := edits_ok w 4 (by decide)
  have f1 := spelled_all_ok he (by omega) w1
  have r1 : noEr m_Script_read [.str (txE es)] w1 = .ok (scD es) w1 := noEr_ok (by rw [read_ok (eds_split he (by omega)) he (by omega), if_pos hl])
  have g1 : mIsG isg_Script (scD es) = some (.bl true) := rfl
  have t1 := text_ok he (by omega) w1
  have c1 := script_ok es he hl w1
  have z1 : mSame 8 [.lst [.lst (es.map edD), .str (txE es)], .lst [.lst (es.map edD), .str (txE es)]] w1 = .ok (.bl true) w1 := x_same' ⟨lsz rfl, plain_cons (plain_edL es (by omega) 3) (plain_cons trivial plain_nil)⟩
  have z2 : mSame 8 [.str (txE es), .str (txE es)] w1 = .ok (.bl true) w1 := x_same' trivial
  -- the parts
  obtain ⟨r, w2, e2, r0, r6⟩ := draw_ok w1 6 (by decide) (by decide)
  obtain ⟨ys, w3, e3, hy, hys⟩ := x_lcP (S := wipeS [s0, some (.dat .box), s2, some (.dat (.lst (es.map edD))), some (.dat (.str (txE es))), some (.dat (scD es)), s6, s7, s8, s9, s10] [10]) (gm := gSet 10) (em := eCall 1 m_L_spelled (aCons (eCall 1 m_L_edit (aCons (eVar 1) aNil)) aNil)) (fun y => ∃ e, y = .str (edS e) ∧ Ed12 e) (upFrom 0 (1 + r).toNat) w2 (fun x _ w => by
    obtain ⟨e, w', q1, q2, q3⟩ := edit_ok2 w
    exact ⟨_, _, w', rfl, x_call (x_cons (x_call (x_cons rfl x_nil) rfl q1) x_nil) rfl (spl_ok (mem_shelf ⟨q2, q3⟩) w'), e, rfl, q2, q3⟩)
  obtain ⟨fs, rfl, hfs⟩ := list_exS ys hys
  have hn : fs.length = (1 + r).toNat := by
    rw [List.length_map, List.length_map] at hy
    rw [hy]; simp [upFrom]
  have n1 : 1 ≤ fs.length := by omega
  have n6 : fs.length ≤ 6 := by omega
  obtain ⟨j0, w4, e4, j1, j2⟩ := draw_ok w3 (fs.length : Int) (by omega) (by omega)
  obtain ⟨j, rfl⟩ : ∃ j : Nat, j0 = (j : Int) := ⟨j0.toNat, by omega⟩
  have hj : j < fs.length := by omega
  have lO : ∀ (p : List D) (t7 t8 t9 t10 : Option SV) (w : Bx), eLenO 6 [s0, some (.dat .box), s2, some (.dat (.lst (es.map edD))), some (.dat (.str (txE es))), some (.dat (scD es)), some (.own p), t7, t8, t9, t10] w = .ok (.int (p.length : Int)) w := fun _ _ _ _ _ _ => rfl
  have fl : (((fs.map edS).map D.str).length : Int) = (fs.length : Int) := by rw [List.length_map, List.length_map]
  have lO1 := fun t7 t8 t9 t10 w => (lO ((fs.map edS).map D.str) t7 t8 t9 t10 w).trans (by rw [fl])
  have k6 : sSetO 6 (oLc (iBy rngOf (aCons (eBin mAdd (eC (.int 1)) (eCall 2 m_L_draw (aCons (eVar 1) (aCons (eC (.int 6)) aNil)))) aNil)) (gSet 10) tYesM (eCall 1 m_L_spelled (aCons (eCall 1 m_L_edit (aCons (eVar 1) aNil)) aNil)) [10]) [s0, some (.dat .box), s2, some (.dat (.lst (es.map edD))), some (.dat (.str (txE es))), some (.dat (scD es)), s6, s7, s8, s9, s10] w1 = .nx [s0, some (.dat .box), s2, some (.dat (.lst (es.map edD))), some (.dat (.str (txE es))), some (.dat (scD es)), some (.own ((fs.map edS).map D.str)), s7, s8, s9, s10] w3 :=
    x_setO (x_lc (x_by (x_cons (x_bin x_C (x_call (x_cons rfl (x_cons x_C x_nil)) rfl e2) rfl) x_nil) (rng_ok (by omega) (by omega))) (by simp [upFrom]; show _ ≤ 16777216; omega) e3)
  have k7 : sSet 7 (eCall 2 m_L_draw (aCons (eVar 1) (aCons (eLenO 6) aNil))) [s0, some (.dat .box), s2, some (.dat (.lst (es.map edD))), some (.dat (.str (txE es))), some (.dat (scD es)), some (.own ((fs.map edS).map D.str)), s7, s8, s9, s10] w3 = .nx [s0, some (.dat .box), s2, some (.dat (.lst (es.map edD))), some (.dat (.str (txE es))), some (.dat (scD es)), some (.own ((fs.map edS).map D.str)), some (.dat (.int (j : Int))), s8, s9, s10] w4 := x_set (x_call (x_cons rfl (x_cons (lO1 _ _ _ _ _) x_nil)) rfl e4)
  obtain ⟨b0, w5, e5, b1, b2⟩ := draw_ok w4 2 (by decide) (by decide)
  have q4 : (mI fun i j => decide (j < i)) (.int (fs.length : Int)) (.int 4) = some (.bl (decide (4 < fs.length))) := by
    show some (D.bl (decide ((4 : Int) < (fs.length : Int)))) = _
    congr 2
    exact decide_eq_decide.mpr (by omega)
  have qb : mEq (.int b0) (.int 0) = some (.bl (decide (b0 = 0))) := by simp [mEq, eqB]
  have s1 : PyData.strOk "ParseError" = true := by decide +kernel
  have s2' : PyData.strOk "TooLong" = true := by decide +kernel
  have s3' : PyData.strOk "" = true := by decide +kernel
  have pfs : ∀ p ∈ fs.map edS, PartOk p := fun p hp => by
    obtain ⟨e, hh, rfl⟩ := List.mem_map.mp hp
    exact part_ed (hfs e hh)
  -- what is due of a length
  obtain ⟨due, hdue, k8⟩ : ∃ due : D, (due = if fs.length ≤ 4 then .tup [.str "", .non] else .tup [.str "TooLong", .int 4]) ∧ sSet 8 (eIf (tOf (eBin (mI fun i j => decide (j < i)) (eLenO 6) (eC (.int 4)))) (eTup (aCons (eC (.str "TooLong")) (aCons (eC (.int 4)) aNil))) (eTup (aCons (eC (.str "")) (aCons (eC .non) aNil)))) [s0, some (.dat .box), s2, some (.dat (.lst (es.map edD))), some (.dat (.str (txE es))), some (.dat (scD es)), some (.own ((fs.map edS).map D.str)), some (.dat (.int (j : Int))), s8, s9, s10] w4 = .nx [s0, some (.dat .box), s2, some (.dat (.lst (es.map edD))), some (.dat (.str (txE es))), some (.dat (scD es)), some (.own ((fs.map edS).map D.str)), some (.dat (.int (j : Int))), some (.dat due), s9, s10] w4 := by
    by_cases h4 : fs.length ≤ 4
    · rw [decide_eq_false (by omega)] at q4
      exact ⟨.tup [.str "", .non], by rw [if_pos h4], x_set (x_eifF (x_tOf (x_bin (lO1 _ _ _ _ _) x_C q4)) (x_tup (p_cons x_C (p_cons x_C x_nil)) (lsz rfl)))⟩
    · rw [decide_eq_true (by omega)] at q4
      exact ⟨.tup [.str "TooLong", .int 4], by rw [if_neg h4], x_set (x_eifT (x_tOf (x_bin (lO1 _ _ _ _ _) x_C q4)) (x_tup (p_cons x_C (p_cons x_C x_nil)) (lsz rfl)))⟩
  have pre : ∀ {rest : SM} {res : RS}, rest [s0, some (.dat .box), s2, some (.dat (.lst (es.map edD))), some (.dat (.str (txE es))), some (.dat (scD es)), some (.own ((fs.map edS).map D.str)), some (.dat (.int (j : Int))), some (.dat due), s9, s10] w4 = res → rest = (sSeq (sIf (tOf (eBin mEq (eCall 2 m_L_draw (aCons (eVar 1) (aCons (eC (.int 2)) aNil))) (eC (.int 0)))) (sSeq (sPut 6 (eVar 7) (eCall 2 m_L_any (aCons (eVar 1) (aCons (eFrz (oLst (aCons (eC (.str "")) (aCons (eC (.str "keep ")) (aCons (eC (.str " keep")) (aCons (eC (.str "flip a 1")) (aCons (eC (.str "keep;")) (aCons (eC (.str "prepend a b")) (aCons (eC (.str "Keep")) aNil))))))))) aNil))))
    (sSeq (sSet 8 (eTup (aCons (eC (.str "ParseError")) (aCons (eVar 7) aNil))))
    (sIf (tAndM (tOf (eBin mEq (eLenO 6) (eC (.int 1)))) (tOf (eBin mEq (eIxO 6 (eC (.int 0))) (eC (.str ""))))) (sSet 8 (eTup (aCons (eC (.str "")) (aCons (eC .non) aNil)))) sNil))) sNil)
    (sSeq (sFrz 6 (sSet 9 (eM1 mJoin (eC (.str "; ")) (eVar 6))))
    (sIf (tOf (eBin mNe (eRef refTbl (eCall 1 m_Script_read (aCons (eVar 9) aNil))) (eVar 8))) (sRet (eC (.bl false))) sNil))) → lb_law_0 [s0, some (.dat .box), s2, s3, s4, s5, s6, s7, s8, s9, s10] w = res := fun hr hrest => by
    subst hrest
    exact x_seq (x_set (x_call (p_cons rfl (p_cons x_C x_nil)) rfl e1)) (p_seq (x_set (x_call (p_cons rfl x_nil) rfl f1)) (p_seq (x_set (x_call (p_cons rfl x_nil) rfl r1)) (p_seq
      (x_ifF (x_orF (x_notT (x_tOf (x_e1 rfl g1))) (x_notT (x_tOf (x_call (p_cons (x_frz (x_lst (p_cons (x_meth (w1 := w1) (w2 := w1) (ds := []) rfl (kept_neE _ _ (by decide +kernel)) x_nil rfl (edits_sc es (by omega) w1)) (p_cons (x_meth (w1 := w1) (w2 := w1) (ds := []) rfl (kept_neE _ _ (by decide +kernel)) x_nil rfl t1) x_nil)) (lsz rfl))) (p_cons (x_frz (x_lst (p_cons rfl (p_cons rfl x_nil)) (lsz rfl))) x_nil)) rfl z1)))) rfl)
      (p_seq (x_ifF (x_notT (x_tOf (x_call (p_cons (x_meth (w1 := w1) (w2 := w1) (ds := []) (x_call (p_cons rfl x_nil) rfl c1) (kept_neE _ _ (by decide +kernel)) x_nil rfl t1) (p_cons rfl x_nil)) rfl z2))) rfl)
        (x_seq k6 (x_seq k7 (x_seq k8 hr)))))))
  by_cases hb : b0 = 0
  · rw [decide_eq_true hb] at qb
    obtain ⟨bd, w6, hbd, e6⟩ := any_lst w5 (badS.map D.str) (by simp [badS]) (by simp [badS])
    obtain ⟨b, hbm, rfl⟩ := List.mem_map.mp hbd
    have bt := bad_of hbm
    have k9 : sPut 6 (eVar 7) (eCall 2 m_L_any (aCons (eVar 1) (aCons (eFrz (oLst (aCons (eC (.str "")) (aCons (eC (.str "keep ")) (aCons (eC (.str " keep")) (aCons (eC (.str "flip a 1")) (aCons (eC (.str "keep;")) (aCons (eC (.str "prepend a b")) (aCons (eC (.str "Keep")) aNil))))))))) aNil))) [s0, some (.dat .box), s2, some (.dat (.lst (es.map edD))), some (.dat (.str (txE es))), some (.dat (scD es)), some (.own ((fs.map edS).map D.str)), some (.dat (.int (j : Int))), some (.dat due), s9, s10] w5 = .nx [s0, some (.dat .box), s2, some (.dat (.lst (es.map edD))), some (.dat (.str (txE es))), some (.dat (scD es)), some (.own (((fs.map edS).set j b).map D.str)), some (.dat (.int (j : Int))), some (.dat due), s9, s10] w6 := by
      have := x_put (i := 6) (fi := eVar 7) (n := j) (S := [s0, some (.dat .box), s2, some (.dat (.lst (es.map edD))), some (.dat (.str (txE es))), some (.dat (scD es)), some (.own ((fs.map edS).map D.str)), some (.dat (.int (j : Int))), some (.dat due), s9, s10]) (w := w5) (w2 := w6) (f := eCall 2 m_L_any (aCons (eVar 1) (aCons (eFrz (oLst (aCons (eC (.str "")) (aCons (eC (.str "keep ")) (aCons (eC (.str " keep")) (aCons (eC (.str "flip a 1")) (aCons (eC (.str "keep;")) (aCons (eC (.str "prepend a b")) (aCons (eC (.str "Keep")) aNil))))))))) aNil))) (x_call (p_cons rfl (p_cons (x_frz (x_lst (p_cons x_C (p_cons x_C (p_cons x_C (p_cons x_C (p_cons x_C (p_cons x_C (p_cons x_C x_nil))))))) (lsz rfl))) x_nil)) rfl e6) rfl (x_var rfl) (by rw [List.length_map, List.length_map]; exact hj)
      rw [List.map_set]
      exact this
    have k10 : sSet 8 (eTup (aCons (eC (.str "ParseError")) (aCons (eVar 7) aNil))) [s0, some (.dat .box), s2, some (.dat (.lst (es.map edD))), some (.dat (.str (txE es))), some (.dat (scD es)), some (.own (((fs.map edS).set j b).map D.str)), some (.dat (.int (j : Int))), some (.dat due), s9, s10] w6 = .nx [s0, some (.dat .box), s2, some (.dat (.lst (es.map edD))), some (.dat (.str (txE es))), some (.dat (scD es)), some (.own (((fs.map edS).set j b).map D.str)), some (.dat (.int (j : Int))), some (.dat (.tup [.str "ParseError", .int (j : Int)])), s9, s10] w6 := x_set (x_tup (p_cons x_C (p_cons rfl x_nil)) (lsz rfl))
    have fl2 : ((((fs.map edS).set j b).map D.str).length : Int) = (fs.length : Int) := by rw [List.length_map, List.length_set, List.length_map]
    have lO2 := fun t7 t8 t9 t10 w => (lO (((fs.map edS).set j b).map D.str) t7 t8 t9 t10 w).trans (by rw [fl2])
    have q1 : mEq (.int (fs.length : Int)) (.int 1) = some (.bl (decide (fs.length = 1))) := by
      have z : mEq (.int (fs.length : Int)) (.int 1) = some (.bl (decide ((fs.length : Int) = 1))) := by simp [mEq, eqB]
      rw [z]
      congr 2
      exact decide_eq_decide.mpr (by omega)
    have hps : ∀ p ∈ (fs.map edS).set j b, PartOk p := fun p hp => by
      rcases List.mem_or_eq_of_mem_set hp with h | rfl
      · exact pfs p h
      · exact part_bad bt
    have hln : ((fs.map edS).set j b).length ≤ 100 := by rw [List.length_set, List.length_map]; omega
    by_cases hone : fs.length = 1 ∧ b = ""
    · obtain ⟨h1, rfl⟩ := hone
      rw [decide_eq_true h1] at q1
      have hj0 : j = 0 := by omega
      subst hj0
      obtain ⟨f0, rfl⟩ : ∃ f0, fs = [f0] := by
        match fs, h1 with
        | [f0], _ => exact ⟨f0, rfl⟩
      have q2 : mEq (.str "") (.str "") = some (.bl true) := by rw [eq_texts, decide_eq_true rfl]
      have i0 : ∀ (t7 t8 t9 t10 : Option SV) (w : Bx), eIxO 6 (eC (.int 0)) [s0, some (.dat .box), s2, some (.dat (.lst (es.map edD))), some (.dat (.str (txE es))), some (.dat (scD es)), some (.own ((([f0].map edS).set 0 "").map D.str)), t7, t8, t9, t10] w = .ok (.str "") w := fun _ _ _ _ _ => rfl
      have rd : m_Script_read [.str (Txt.join "; " (([f0].map edS).set 0 ""))] w6 = .ok (scD []) w6 := by
        have := read_ok (w := w6) (t := Txt.join "; " (([f0].map edS).set 0 "")) (es := []) (.inl ⟨rfl, rfl⟩) (fun _ h => nomatch h) (by decide)
        rw [if_pos (by decide)] at this
        exact this
      obtain ⟨S2, h2, h3⟩ := tail_ok s0 s2 (some (.dat (.lst (es.map edD)))) (some (.dat (.str (txE es)))) (some (.dat (scD es))) (some (.dat (.int (0 : Nat)))) s9 s10 (w := w6) (due := .tup [.str "", .non]) hps hln (x_refO (x_call (p_cons rfl x_nil) rfl rd)) (due_ne s3' trivial rfl)
      exact ⟨S2, w6, pre (x_seq (x_ifT (x_tOf (x_bin (x_call (p_cons rfl (p_cons x_C x_nil)) rfl e5) x_C qb)) (x_seq k9 (x_seq k10 (x_ifT (x_andT (x_tOf (x_bin (lO2 _ _ _ _ _) x_C q1)) (x_tOf (x_bin (i0 _ _ _ _ _) x_C q2))) (x_set (x_tup (p_cons x_C (p_cons x_C x_nil)) (lsz rfl))))))) h2) rfl, h3⟩
    · have hne : (fs.map edS).set j b ≠ [("" : Str)] := fun z => by
        have hl1 := congrArg List.length z
        rw [List.length_set, List.length_map] at hl1
        have hl1 : fs.length = 1 := hl1
        have hj0 : j = 0 := by omega
        subst hj0
        match fs, hl1 with
        | [f0], _ =>
          have : b = "" := by
            have z : [b] = [("" : Str)] := z
            exact (List.cons.inj z).1
          exact hone ⟨rfl, this⟩
      have hnil : (fs.map edS).set j b ≠ [] := fun z => by
        have hl1 := congrArg List.length z
        rw [List.length_set, List.length_map] at hl1
        have hl1 : fs.length = 0 := hl1
        omega
      obtain ⟨x1, x2, x3⟩ := parts_split hps hln hnil hne
      have rd := read_bad (w := w6) (t := Txt.join "; " ((fs.map edS).set j b)) (b := b) (es := fs.take j) (rest := (fs.drop (j + 1)).map edS) ⟨x1, by rw [x2]; exact part_set hj, x3⟩ (fun e h => hfs e (List.mem_of_mem_take h)) bt (by rw [List.length_take]; omega)
      rw [List.length_take, Nat.min_eq_left (by omega)] at rd
      have rf : refF [("tag", .str "ParseError"), ("at", .int (j : Int))] "at" = some (.int (j : Int)) := by
        have : ¬ (("at" : Str) = "") := by decide +kernel
        have : (("at" : Str) == ("tag" : Str)) = false := by decide +kernel
        unfold refF; simp [List.lookup, *]
      obtain ⟨S2, h2, h3⟩ := tail_ok s0 s2 (some (.dat (.lst (es.map edD)))) (some (.dat (.str (txE es)))) (some (.dat (scD es))) (some (.dat (.int (j : Int)))) s9 s10 (w := w6) (due := .tup [.str "ParseError", .int (j : Int)]) hps hln (x_refE (x_call (p_cons rfl x_nil) rfl rd) ref_pe rfl rf) (due_ne s1 trivial rfl)
      have cond : (tAndM (tOf (eBin mEq (eLenO 6) (eC (.int 1)))) (tOf (eBin mEq (eIxO 6 (eC (.int 0))) (eC (.str ""))))) [s0, some (.dat .box), s2, some (.dat (.lst (es.map edD))), some (.dat (.str (txE es))), some (.dat (scD es)), some (.own (((fs.map edS).set j b).map D.str)), some (.dat (.int (j : Int))), some (.dat (.tup [.str "ParseError", .int (j : Int)])), s9, s10] w6 = .ok false w6 := by
        by_cases h1 : fs.length = 1
        · rw [decide_eq_true h1] at q1
          have hj0 : j = 0 := by omega
          subst hj0
          obtain ⟨f0, rfl⟩ : ∃ f0, fs = [f0] := by
            match fs, h1 with
            | [f0], _ => exact ⟨f0, rfl⟩
          have q2 : mEq (.str b) (.str "") = some (.bl false) := by rw [eq_texts, decide_eq_false fun z => hone ⟨rfl, z⟩]
          exact x_andT (x_tOf (x_bin (lO2 _ _ _ _ _) x_C q1)) (x_tOf (x_bin (d := .str b) rfl x_C q2))
        · rw [decide_eq_false h1] at q1
          exact x_andF (x_tOf (x_bin (lO2 _ _ _ _ _) x_C q1))
      exact ⟨S2, w6, pre (x_seq (x_ifT (x_tOf (x_bin (x_call (p_cons rfl (p_cons x_C x_nil)) rfl e5) x_C qb)) (x_seq k9 (x_seq k10 (x_ifF cond rfl)))) h2) rfl, h3⟩
  · rw [decide_eq_false hb] at qb
    have h0 := eds_split hfs (by omega)
    have rd := read_ok (w := w5) h0 hfs (by omega)
    have hne : mNe due due = some (.bl false) := by
      rw [hdue]
      split
      · exact due_ne s3' trivial rfl
      · exact due_ne s2' trivial rfl
    have rf : refF [("tag", .str "TooLong"), ("most", .int 4)] "most" = some (.int 4) := by
      have : ¬ (("most" : Str) = "") := by decide +kernel
      have : (("most" : Str) == ("tag" : Str)) = false := by decide +kernel
      unfold refF; simp [List.lookup, *]
    obtain ⟨S2, h2, h3⟩ := tail_ok s0 s2 (some (.dat (.lst (es.map edD)))) (some (.dat (.str (txE es)))) (some (.dat (scD es))) (some (.dat (.int (j : Int)))) s9 s10 (w := w5) (due := due) (ps := fs.map edS) pfs (by rw [List.length_map]; omega) (by
      rw [hdue]
      by_cases h4 : fs.length ≤ 4
      · rw [if_pos h4] at rd ⊢
        exact x_refO (x_call (p_cons rfl x_nil) rfl rd)
      · rw [if_neg h4] at rd ⊢
        exact x_refE (x_call (p_cons rfl x_nil) rfl rd) ref_tl rfl rf) hne
    exact ⟨S2, w5, pre (x_seq (x_ifF (x_tOf (x_bin (x_call (p_cons rfl (p_cons x_C x_nil)) rfl e5) x_C qb)) rfl) h2) rfl, h3⟩
theorem law_true : ∀ w : Bx, ∃ w', g_law (lawS 11) w = .rt (.bl true) w' := fun w => by
  obtain ⟨S2, w2, e, hI⟩ := x_forP (gm := gSet 2) (body := lb_law_0) IS (upFrom 0 5) (lawS 11) w ⟨_, _, _, _, _, _, _, _, _, _, rfl⟩ fun x _ S w h => by
    obtain ⟨s0, s2, s3, s4, s5, s6, s7, s8, s9, s10, rfl⟩ := h
    obtain ⟨S2, w2, e, h2⟩ := turn_ok [s0, some (.dat .box), some (.dat x), s3, s4, s5, s6, s7, s8, s9, s10] w ⟨_, _, _, _, _, _, _, _, _, _, rfl⟩
    exact ⟨_, rfl, S2, w2, .inl e, h2⟩
  obtain ⟨s0, s2, s3, s4, s5, s6, s7, s8, s9, s10, rfl⟩ := hI
  obtain ⟨x1, x2, x3⟩ := parts_split (ps := ["keep;keep"]) (fun p hp => by rw [List.mem_singleton.mp hp]; exact part_bad kk_bad) (by decide) (by simp) (by decide +kernel)
  have rd := read_bad (w := w2) (t := "keep;keep") (b := "keep;keep") (es := []) (rest := []) ⟨x1, x2, x3⟩ (fun _ h => nomatch h) kk_bad (by decide)
  have rf : refF [("tag", .str "ParseError"), ("at", .int (([] : List Ed).length : Int))] "at" = some (.int 0) := by
    have : ¬ (("at" : Str) = "") := by decide +kernel
    have : (("at" : Str) == ("tag" : Str)) = false := by decide +kernel
    unfold refF; simp [List.lookup, *]
  have s1 : niceN 0 (.str "ParseError") := show PyData.strOk "ParseError" = true by decide +kernel
  have eq : mEq (.tup [.str "ParseError", .int 0]) (.tup [.str "ParseError", .int 0]) = some (.bl true) := eq_same (n := 1) (nice_tupl (nice_cons s1 (nice_cons trivial nice_nil))) (by decide) rfl
  have r0 : noEr m_Script_read [.str ""] w2 = .ok (scD []) w2 := noEr_ok (by
    have := read_ok (w := w2) (t := "") (es := []) (.inl ⟨rfl, rfl⟩) (fun _ h => nomatch h) (by decide)
    rw [if_pos (by decide)] at this
    exact this)
  have ln := sclen_ok [] (by decide) w2
  have e0 : mEq (.int (([] : List Ed).length : Int)) (.int 0) = some (.bl true) := rfl
  exact ⟨w2, x_seq (x_for (x_by (p_cons x_C x_nil) (rng_ok (by decide) (by decide))) e) (x_ret (x_eandT (x_bin (x_refE (x_call (p_cons x_C x_nil) rfl rd) ref_pe rfl rf) (x_tup (p_cons x_C (p_cons x_C x_nil)) (lsz rfl)) eq) (x_bin (x_lenI (x_call (p_cons x_C x_nil) rfl r0) (cls_self _ _) ln ⟨by decide, by decide⟩) x_C e0)))⟩

section
variable {P : Program} {w : World} {K : PySem.W.Frag} {mg : Str → Option Value} {base : Heap} {tb : List (Addr × Str)}
theorem ok_open (T : Top P w K mg base tb) : ∃ fo fdo, FnOk P w K mg base (L2N.CX P w) 1 fo fdo ["_law_script_here"] (spOpen K) ∧ mg "_law_open" = some (.ref fo) ∧ PySem.W.keepIn K (.ref fo) = true ∧ Binds K fdo ["_law_script_here"] [] := by
  obtain ⟨fo, fdo, F, hm, hb⟩ := T.d_L_open
  refine ⟨fo, fdo, okXN (k := 0) F sc_L_open (fun vs H Q E h => ?_) (fun cdv A outer s H vs Q E hr h => ?_), hm, F.kp, hb⟩
  · obtain ⟨a, ns, rfl, _⟩ := h; rfl
  · obtain ⟨a, ns, rfl, hS, hl, q⟩ := h
    have nd := sc_L_open.nd
    refine ⟨_, pss_cons (ps_set (i := 1) nd rfl (.inl rfl) (pe_callTy call_list_of (by rfl) T.n_list (by decide +kernel) (pa_cons (pe_slice sl_list (pv 0) po_none (po_some pe_int)) pa_nil)))
      (pss_cons (ps_set (i := 2) nd rfl (.inl rfl) (pe_op op_add pe_int (pe_callB call_len_seq (by rfl) T.n_len PySem.boot_len (pa_cons (pv 1) pa_nil))))
      (pss_cons (ps_for (passes_of rfl) rfl (pi_list (pv 1)) (pg_name (i := 3) nd rfl (.inl rfl)) (pss_one (ps_set (i := 2) nd rfl (.inl rfl) (pe_op op_mod (pe_op op_add (pe_op op_add (pe_op op_mul (pv 2) pe_int) (pe_op op_mod (pv 3) pe_int)) pe_int) pe_int))))
      (pss_one (ps_ret (pe_lst (pa_cons (pv 1) (pa_cons pe_int (pa_cons pe_int (pa_cons (pv 2) pa_nil))))))))), ?_⟩
    refine ⟨.ref a, rfl, 63, rfl, a, ns.map V.int, rfl, hS, fun p np => ?_⟩
    rw [cut63 hl]
    refine ⟨p, _, rfl, .inl (SqL.of upd_same), fun c nc => ?_⟩
    have s1 : Same H (upd H p (.lst (ns.map V.int))) := fun x o h => by rw [upd_ne (ne_of_none h np)]; exact h
    have s2 : Same (upd H p (.lst (ns.map V.int))) (upd (upd H p (.lst (ns.map V.int))) c (.lst (ns.map V.int))) := fun x o h => by rw [upd_ne (ne_of_none h nc)]; exact h
    have hc : (upd (upd H p (.lst (ns.map V.int))) c (.lst (ns.map V.int))) c = some (.lst (ns.map V.int)) := upd_same
    generalize (upd (upd H p (.lst (ns.map V.int))) c (.lst (ns.map V.int))) = H2 at hc s2
    have s12 := s1.trans s2
    refine ⟨.ref c, rfl, c, _, rfl, .inl (SqL.of hc), 3816, _, rfl, rfl, ?_⟩
    refine ⟨.ref c, rfl, c, rfl, ⟨_, SqL.of hc⟩, for_list (K := K) (a := c) (xs := ns.map V.int) (fun i σ H3 => H3 = H2 ∧ ∃ (mk : Int) (y : Option V), 0 ≤ mk ∧ mk < 2147483647 ∧ σ = [some (.ref a), some (.ref c), some (.int mk), y]) ⟨rfl, 3816 + ((ns.map V.int).length : Int), none, ?_, ?_, rfl⟩ (fun i σ H3 _ h => ?_) (fun i x σ H3 hx h => ?_) (fun σ H3 h => ?_)⟩
    · omega
    · rw [List.length_map]; omega
    · obtain ⟨rfl, _⟩ := h; exact SqL.of hc
    · obtain ⟨rfl, mk, y, h0, h1, rfl⟩ := h
      have hx' : ∃ n, x = .int n := by
        rw [List.getElem?_map] at hx
        obtain ⟨n, _, rfl⟩ := Option.map_eq_some_iff.mp hx
        exact ⟨n, rfl⟩
      obtain ⟨n, rfl⟩ := hx'
      refine ⟨_, rfl, mk, 8191, rfl, rfl, .inr ⟨by decide, by decide⟩, .int n, rfl, n, 1000003, rfl, rfl, (by show (0 : Int) < 1000003; decide), _, _, rfl, rfl, _, 7, rfl, rfl, _, 2147483629, rfl, rfl, (by show (0 : Int) < 2147483629; decide), rfl, _, some (.int n), ?_, ?_, rfl⟩
      · exact Int.emod_nonneg _ (by decide)
      · exact Int.lt_trans (Int.emod_lt_of_pos _ (by decide)) (by decide)
    · obtain ⟨rfl, mk, y, h0, h1, rfl⟩ := h
      refine ⟨.ref c, rfl, .int mk, rfl, by show 4 ≤ sizeLine; decide, fun b nb => ?_⟩
      have nbc : b ≠ c := fun e => by rw [e, hc] at nb; cases nb
      have s3 : Same H3 (upd H3 b (.lst [.ref c, .int 0, .int 0, .int mk])) := fun x o h => by rw [upd_ne (ne_of_none h nb)]; exact h
      exact q b c mk _ (s12.trans s3) nbc upd_same (s3 _ _ hc) h0 h1

theorem x_ParseError (T : Top P w K mg base tb) : ExG xbV P w K mg base (clsOf mg tb) "ParseError" "at" "ParseError" :=
  exg_of T.ex_ParseError sc_ParseError___init__ fun X hN hs => by
    have v0 : ∀ q, PE X (.Name "self" q) (tVar 0) := fun q => pe_var (i := 0) (by rw [hN]; rfl) (.inl (by rw [hs]; rfl)) rfl rfl
    have v1 : ∀ q, PE X (.Name "at" q) (tVar 1) := fun q => pe_var (i := 1) (by rw [hN]; rfl) (.inl (by rw [hs]; rfl)) rfl rfl
    exact pss_cons (ps_osT xbV_ok (v0 _) (v1 _)) (pss_one (ps_osT xbV_ok (v0 _) pe_str))
theorem xh_ParseError (T : Top P w K mg base tb) : ExGH xbV P w K mg base (clsOf mg tb) "ParseError" "at" "ParseError" :=
  exgH_of T.ex_ParseError sc_ParseError___init__ fun X hN hs => by
    have v0 : ∀ q, PE X (.Name "self" q) (tVar 0) := fun q => pe_var (i := 0) (by rw [hN]; rfl) (.inl (by rw [hs]; rfl)) rfl rfl
    have v1 : ∀ q, PE X (.Name "at" q) (tVar 1) := fun q => pe_var (i := 1) (by rw [hN]; rfl) (.inl (by rw [hs]; rfl)) rfl rfl
    exact pss_cons (ps_osT xbV_ok (v0 _) (v1 _)) (pss_one (ps_osT xbV_ok (v0 _) pe_str))

theorem x_InvalidEdit (T : Top P w K mg base tb) : ExG xbV P w K mg base (clsOf mg tb) "InvalidEdit" "at" "InvalidEdit" :=
  exg_of T.ex_InvalidEdit sc_InvalidEdit___init__ fun X hN hs => by
    have v0 : ∀ q, PE X (.Name "self" q) (tVar 0) := fun q => pe_var (i := 0) (by rw [hN]; rfl) (.inl (by rw [hs]; rfl)) rfl rfl
    have v1 : ∀ q, PE X (.Name "at" q) (tVar 1) := fun q => pe_var (i := 1) (by rw [hN]; rfl) (.inl (by rw [hs]; rfl)) rfl rfl
    exact pss_cons (ps_osT xbV_ok (v0 _) (v1 _)) (pss_one (ps_osT xbV_ok (v0 _) pe_str))

theorem x_TooLong (T : Top P w K mg base tb) : ExG xbV P w K mg base (clsOf mg tb) "TooLong" "most" "TooLong" :=
  exg_of T.ex_TooLong sc_TooLong___init__ fun X hN hs => by
    have v0 : ∀ q, PE X (.Name "self" q) (tVar 0) := fun q => pe_var (i := 0) (by rw [hN]; rfl) (.inl (by rw [hs]; rfl)) rfl rfl
    have v1 : ∀ q, PE X (.Name "most" q) (tVar 1) := fun q => pe_var (i := 1) (by rw [hN]; rfl) (.inl (by rw [hs]; rfl)) rfl rfl
    exact pss_cons (ps_osT xbV_ok (v0 _) (v1 _)) (pss_one (ps_osT xbV_ok (v0 _) pe_str))

theorem c_format_edit (T : Top P w K mg base tb) : Cal P w K mg base (clsOf mg tb) "format_edit" 1 1 m_format_edit := by
  obtain ⟨f, fd, F, hm, hb⟩ := T.d_format_edit
  refine cal_of (ps := ["edit"]) F sc_format_edit hm hb (fun cdv hcv A outer s H E bx F0 hr => ?_) (fun ds w _ => rfl)
  have px := L2N.passes_call (E := E) (L2N.takes_of (X := cxOf (L2N.CX P w) P w K mg base ["edit", "words", "one"] "format_edit" (defScope s_format_edit) f cdv A outer s H E) rfl rfl rfl rfl) (fun _ _ _ _ h => h)
  exact (dss_cons (ds_setO 1 (do_lst (da_cons (de_ix rfl (de_var 0) de_int) da_nil)) sc_format_edit.nd)
    (dss_cons (ds_for (passes_of rfl) rfl (di_any rfl (de_slice rfl (de_var 0) (dp_some de_int) dp_none)) (dg_name 2 sc_format_edit.nd) (dss_one (ds_if (dt_val (de_isi rfl kit_tuple T.n_tuple (by decide +kernel) T.n_isinstance (de_var 2))) (dss_one (ds_extend 1 rfl (DO.de (do_lst (da_cons (de_ix rfl (de_var 2) de_int) (da_cons (de_strI T.n_str (da_cons (de_ix rfl (de_var 2) de_int) da_nil)) (da_cons (de_ix rfl (de_var 2) de_int) da_nil))))))) (dss_one (ds_append 1 rfl (de_var 2))))))
    (dss_one (ds_frz 1 (ds_ret (de_join rfl de_str (de_var 1)))))))

theorem cO_places (T : Top P w K mg base tb) : CalO P w K mg base (clsOf mg tb) "places" 1 0 mO_places := by
  obtain ⟨f, fd, F, hm, hb⟩ := T.d_places
  refine calO_of (ps := []) F sc_places hm hb (fun cdv hcv A outer s H E bx F0 hr => ?_)
  have px := L2N.passes_call (E := E) (L2N.takes_of (X := cxOf (L2N.CX P w) P w K mg base ["symbol", "number", "end"] "places" (defScope s_places) f cdv A outer s H E) rfl rfl rfl rfl) (fun _ _ _ _ h => h)
  exact (dsso_ret (do_lc3 [("symbol", 0), ("number", 1), ("end", 2)] [1, 2] [2] rfl sc_places.nd (di_any rfl (de_glb rfl T.g_SYMBOLS)) (blkOk_by (own := [("symbol", 0), ("number", 1), ("end", 2)]) (N := ["symbol", "number", "end"]) (sc := defScope s_places) (by decide +kernel)) (fun _ _ _ _ _ => (dg_name 0 sc_places.nd)) (fun _ _ _ _ _ => (di_any rfl (de_glb rfl T.g_NUMBERS))) (fun _ _ _ _ _ => (dg_name 1 sc_places.nd)) (fun _ _ _ _ _ => (di_any rfl (de_glb rfl T.g_ENDS))) (fun _ _ _ _ _ => (dg_name 2 sc_places.nd)) (fun _ _ _ _ _ => (de_tup (da_cons (de_var 0) (da_cons (de_var 1) (da_cons (de_var 2) da_nil)))))))
theorem c_places (T : Top P w K mg base tb) : Cal P w K mg base (clsOf mg tb) "places" 1 0 m_places := (cO_places T).cal

theorem cO_shelf (T : Top P w K mg base tb) : CalO P w K mg base (clsOf mg tb) "shelf" 2 0 mO_shelf := by
  obtain ⟨f, fd, F, hm, hb⟩ := T.d_shelf
  refine calO_of (ps := []) F sc_shelf hm hb (fun cdv hcv A outer s H E bx F0 hr => ?_)
  have px := L2N.passes_call (E := E) (L2N.takes_of (X := cxOf (L2N.CX P w) P w K mg base ["found", "word", "symbol", "place"] "shelf" (defScope s_shelf) f cdv A outer s H E) rfl rfl rfl rfl) (fun _ _ _ _ h => h)
  exact (dsso_cons (ds_setO 0 (do_lst (da_cons (de_tup (da_cons de_str da_nil)) da_nil)) sc_shelf.nd)
    (dsso_cons (ds_for (passes_of rfl) rfl (di_any rfl (de_tup (da_cons de_str (da_cons de_str da_nil)))) (dg_name 1 sc_shelf.nd) (dss_one (ds_extend 0 rfl (DO.de (do_lc [("symbol", 2)] rfl sc_shelf.nd (di_any rfl (de_glb rfl T.g_SYMBOLS)) (blkOk_by (own := [("symbol", 2)]) (N := ["found", "word", "symbol", "place"]) (sc := defScope s_shelf) (by decide +kernel)) (fun _ _ _ _ _ => (dg_name 2 sc_shelf.nd)) (fun _ _ _ _ _ => dts_nil) (fun _ _ _ _ _ => (de_tup (da_cons (de_var 1) (da_cons (de_var 2) da_nil)))))))))
    (dsso_cons (ds_for (passes_of rfl) rfl (di_any rfl (de_tup (da_cons de_str (da_cons de_str da_nil)))) (dg_name 1 sc_shelf.nd) (dss_one (ds_extend 0 rfl (DO.de (do_lc2 [("place", 3), ("symbol", 2)] [2] rfl sc_shelf.nd (di_any rfl (de_call0 rfl (c_places T) (hr.mono (by decide)) px)) (blkOk_by (own := [("place", 3), ("symbol", 2)]) (N := ["found", "word", "symbol", "place"]) (sc := defScope s_shelf) (by decide +kernel)) (fun _ _ _ _ _ => (dg_name 3 sc_shelf.nd)) (fun _ _ _ _ _ => dts_nil) (fun _ _ _ _ _ => (di_any rfl (de_glb rfl T.g_SYMBOLS))) (fun _ _ _ _ _ => (dg_name 2 sc_shelf.nd)) (fun _ _ _ _ _ => dts_nil) (fun _ _ _ _ _ => (de_tup (da_cons (de_var 1) (da_cons (de_var 3) (da_cons (de_var 2) da_nil))))))))))
    (dsso_cons (ds_for (passes_of rfl) rfl (di_any rfl (de_tup (da_cons de_str (da_cons de_str da_nil)))) (dg_name 1 sc_shelf.nd) (dss_one (ds_extend 0 rfl (DO.de (do_lc [("place", 3)] rfl sc_shelf.nd (di_any rfl (de_call0 rfl (c_places T) (hr.mono (by decide)) px)) (blkOk_by (own := [("place", 3)]) (N := ["found", "word", "symbol", "place"]) (sc := defScope s_shelf) (by decide +kernel)) (fun _ _ _ _ _ => (dg_name 3 sc_shelf.nd)) (fun _ _ _ _ _ => dts_nil) (fun _ _ _ _ _ => (de_tup (da_cons (de_var 1) (da_cons (de_var 3) da_nil)))))))))
    (dsso_retV 0)))))
theorem c_shelf (T : Top P w K mg base tb) : Cal P w K mg base (clsOf mg tb) "shelf" 2 0 m_shelf := (cO_shelf T).cal

theorem c_L_spelled (T : Top P w K mg base tb) : Cal P w K mg base (clsOf mg tb) "_law_spelled" 1 1 m_L_spelled := by
  obtain ⟨f, fd, F, hm, hb⟩ := T.d_L_spelled
  refine cal_of (ps := ["_law_edit_here"]) F sc_L_spelled hm hb (fun cdv hcv A outer s H E bx F0 hr => ?_) (fun ds w _ => rfl)
  have px := L2N.passes_call (E := E) (L2N.takes_of (X := cxOf (L2N.CX P w) P w K mg base ["_law_edit_here", "_law_words", "_law_one"] "_law_spelled" (defScope s_L_spelled) f cdv A outer s H E) rfl rfl rfl rfl) (fun _ _ _ _ h => h)
  exact (dss_cons (ds_set 1 (DO.de (do_lst (da_cons (de_ix rfl (de_var 0) de_int) da_nil))) sc_L_spelled.nd)
    (dss_cons (ds_for (passes_of rfl) rfl (di_any rfl (de_slice rfl (de_var 0) (dp_some de_int) dp_none)) (dg_name 2 sc_L_spelled.nd) (dss_one (ds_set 1 (de_op op_addX (od_add rfl) (de_var 1) (de_if (dt_val (de_isi rfl kit_str T.n_str (by decide +kernel) T.n_isinstance (de_var 2))) (DO.de (do_lst (da_cons (de_var 2) da_nil))) (DO.de (do_lst (da_cons (de_ix rfl (de_var 2) de_int) (da_cons (de_strI T.n_str (da_cons (de_ix rfl (de_var 2) de_int) da_nil)) (da_cons (de_ix rfl (de_var 2) de_int) da_nil))))))) sc_L_spelled.nd)))
    (dss_one (ds_ret (de_join rfl de_str (de_var 1))))))

theorem f_Script___len__ (T : Top P w K mg base tb) {f : Addr} {fd : FuncData} (F : Fun K "__len__" "Script.__len__" s_Script___len__ f fd) : FnOk P w K mg base (L2N.CX P w) 1 f fd ["self"] (spM K (clsOf mg tb) 1 m_Script___len__) := by
  refine fnok_of F sc_Script___len__ (fun cdv hcv A outer s H E bx F0 hr => ?_) (fun ds w _ => rfl)
  have px := L2N.passes_call (E := E) (L2N.takes_of (X := cxOf (L2N.CX P w) P w K mg base ["self"] "Script.__len__" (defScope s_Script___len__) f cdv A outer s H E) rfl rfl rfl rfl) (fun _ _ _ _ h => h)
  exact (dss_one (ds_ret (de_len rfl T.n_len (da_cons (de_fld (fldK T.fl_Script_kept) (de_var 0)) da_nil))))
theorem q_mth_Script___len__ (T : Top P w K mg base tb) : MthK P w K mg base (clsOf mg tb) "Script" "__len__" 1 1 m_Script___len__ := by
  obtain ⟨C, f, fd, h1, h2, h3, F, hb⟩ := T.mt_Script___len__
  exact ⟨C, f, fd, _, clsOf_eq h1, h2, h3, f_Script___len__ T F, hb⟩

theorem fO_Script_edits (T : Top P w K mg base tb) {f : Addr} {fd : FuncData} (F : Fun K "edits" "Script.edits" s_Script_edits f fd) : FnOk P w K mg base (L2N.CX P w) 1 f fd ["self"] (spMO K (clsOf mg tb) 1 mO_Script_edits) := by
  refine fnok_ofO F sc_Script_edits (fun cdv hcv A outer s H E bx F0 hr => ?_)
  have px := L2N.passes_call (E := E) (L2N.takes_of (X := cxOf (L2N.CX P w) P w K mg base ["self"] "Script.edits" (defScope s_Script_edits) f cdv A outer s H E) rfl rfl rfl rfl) (fun _ _ _ _ h => h)
  exact (dsso_ret (do_list rfl T.n_list (da_cons (de_fld (fldK T.fl_Script_kept) (de_var 0)) da_nil)))
theorem f_Script_edits (T : Top P w K mg base tb) {f : Addr} {fd : FuncData} (F : Fun K "edits" "Script.edits" s_Script_edits f fd) : FnOk P w K mg base (L2N.CX P w) 1 f fd ["self"] (spM K (clsOf mg tb) 1 m_Script_edits) := fnok_frz (fO_Script_edits T F)
theorem q_mth_Script_edits (T : Top P w K mg base tb) : MthK P w K mg base (clsOf mg tb) "Script" "edits" 1 1 m_Script_edits := by
  obtain ⟨C, f, fd, h1, h2, h3, F, hb⟩ := T.mt_Script_edits
  exact ⟨C, f, fd, _, clsOf_eq h1, h2, h3, f_Script_edits T F, hb⟩

theorem c_is_symbol (T : Top P w K mg base tb) : Cal P w K mg base (clsOf mg tb) "is_symbol" 1 1 m_is_symbol := by
  obtain ⟨f, fd, F, hm, hb⟩ := T.d_is_symbol
  refine cal_of (ps := ["thing"]) F sc_is_symbol hm hb (fun cdv hcv A outer s H E bx F0 hr => ?_) (fun ds w _ => rfl)
  have px := L2N.passes_call (E := E) (L2N.takes_of (X := cxOf (L2N.CX P w) P w K mg base ["thing"] "is_symbol" (defScope s_is_symbol) f cdv A outer s H E) rfl rfl rfl rfl) (fun _ _ _ _ h => h)
  exact (dss_one (ds_ret (de_cmp (op_inX (u65 hr)) (od_in rfl) (de_var 0) (de_tup (da_cons de_str (da_cons de_str da_nil))))))

theorem c_is_place (T : Top P w K mg base tb) : Cal P w K mg base (clsOf mg tb) "is_place" 2 1 m_is_place := by
  obtain ⟨f, fd, F, hm, hb⟩ := T.d_is_place
  refine cal_of (ps := ["thing"]) F sc_is_place hm hb (fun cdv hcv A outer s H E bx F0 hr => ?_) (fun ds w _ => rfl)
  have px := L2N.passes_call (E := E) (L2N.takes_of (X := cxOf (L2N.CX P w) P w K mg base ["thing", "symbol", "number", "end"] "is_place" (defScope s_is_place) f cdv A outer s H E) rfl rfl rfl rfl) (fun _ _ _ _ h => h)
  exact (dss_cons (ds_if (DW.t (dw_or (dt_not (dt_val (de_isi rfl kit_tuple T.n_tuple (by decide +kernel) T.n_isinstance (de_var 0)))) (dw_or1 (dt_cmp (op_neX (u64 hr)) (od_ne rfl) (de_len rfl T.n_len (da_cons (de_var 0) da_nil)) de_int)))) (dss_one (ds_ret de_bl)) dss_nil)
    (dss_cons (ds_asg (de_var 0) (dg_tup rfl (dgs_cons (dg_name 1 sc_is_place.nd) (dgs_cons (dg_name 2 sc_is_place.nd) (dgs_cons (dg_name 3 sc_is_place.nd) dgs_nil))) (fun _ h => pg_tup rfl h) (gs_len (gs_len (gs_len gs_len0)))))
    (dss_one (ds_ret (de_and (de_call rfl (c_is_symbol T) (hr.mono (by decide)) px (da_cons (de_var 1) da_nil)) (de_and (de_cmp (op_inX (u65 hr)) (od_in rfl) (de_var 2) (de_glb rfl T.g_NUMBERS)) (de_and (de_not (de_isi rfl kit_bool T.n_bool (by decide +kernel) T.n_isinstance (de_var 2))) (de_one (de_cmp (op_inX (u65 hr)) (od_in rfl) (de_var 3) (de_glb rfl T.g_ENDS))))))))))

theorem c_is_edit (T : Top P w K mg base tb) : Cal P w K mg base (clsOf mg tb) "is_edit" 3 1 m_is_edit := by
  obtain ⟨f, fd, F, hm, hb⟩ := T.d_is_edit
  refine cal_of (ps := ["thing"]) F sc_is_edit hm hb (fun cdv hcv A outer s H E bx F0 hr => ?_) (fun ds w _ => rfl)
  have px := L2N.passes_call (E := E) (L2N.takes_of (X := cxOf (L2N.CX P w) P w K mg base ["thing", "word"] "is_edit" (defScope s_is_edit) f cdv A outer s H E) rfl rfl rfl rfl) (fun _ _ _ _ h => h)
  exact (dss_cons (ds_if (DW.t (dw_or (dt_not (dt_val (de_isi rfl kit_tuple T.n_tuple (by decide +kernel) T.n_isinstance (de_var 0)))) (dw_or1 (dt_cmp (op_eqX (u64 hr)) (od_eq rfl) (de_len rfl T.n_len (da_cons (de_var 0) da_nil)) de_int)))) (dss_one (ds_ret de_bl)) dss_nil)
    (dss_cons (ds_set 1 (de_ix rfl (de_var 0) de_int) sc_is_edit.nd)
    (dss_cons (ds_if (dt_cmp (op_eqX (u64 hr)) (od_eq rfl) (de_var 1) de_str) (dss_one (ds_ret (de_cmp (op_eqX (u64 hr)) (od_eq rfl) (de_len rfl T.n_len (da_cons (de_var 0) da_nil)) de_int))) dss_nil)
    (dss_cons (ds_if (dt_cmp (op_inX (u65 hr)) (od_in rfl) (de_var 1) (de_tup (da_cons de_str (da_cons de_str da_nil)))) (dss_one (ds_ret (de_and (de_cmp (op_eqX (u64 hr)) (od_eq rfl) (de_len rfl T.n_len (da_cons (de_var 0) da_nil)) de_int) (de_one (de_call rfl (c_is_symbol T) (hr.mono (by decide)) px (da_cons (de_ix rfl (de_var 0) de_int) da_nil)))))) dss_nil)
    (dss_cons (ds_if (dt_cmp (op_inX (u65 hr)) (od_in rfl) (de_var 1) (de_tup (da_cons de_str (da_cons de_str da_nil)))) (dss_one (ds_ret (de_and (de_cmp (op_eqX (u64 hr)) (od_eq rfl) (de_len rfl T.n_len (da_cons (de_var 0) da_nil)) de_int) (de_and (de_call rfl (c_is_place T) (hr.mono (by decide)) px (da_cons (de_ix rfl (de_var 0) de_int) da_nil)) (de_one (de_call rfl (c_is_symbol T) (hr.mono (by decide)) px (da_cons (de_ix rfl (de_var 0) de_int) da_nil))))))) dss_nil)
    (dss_one (ds_ret (de_and (de_cmp (op_inX (u65 hr)) (od_in rfl) (de_var 1) (de_tup (da_cons de_str (da_cons de_str da_nil)))) (de_and (de_cmp (op_eqX (u64 hr)) (od_eq rfl) (de_len rfl T.n_len (da_cons (de_var 0) da_nil)) de_int) (de_one (de_call rfl (c_is_place T) (hr.mono (by decide)) px (da_cons (de_ix rfl (de_var 0) de_int) da_nil))))))))))))

theorem q_ini_Script (T : Top P w K mg base tb) : IniK P w K mg base (clsOf mg tb) "Script" 4 (nLe 1000) m_Script___init__ := by
  obtain ⟨C, f, fd, h1, hM, F⟩ := T.in_Script
  refine ini_ofV (nmax := 1000) h1 (clsOf_eq h1) hM F sc_Script___init__ (fun _ _ _ _ _ _ us rest hl => match us, rest, hl with | [_], [], _ => rfl | [_], _ :: _, _ => rfl) (by decide) (fun cdv A outer s H E b x dx F0 H0 hr h0 => ?_) (fun ds w _ => rfl)
  have px := L2N.passes_call (E := E) (L2N.takes_of (X := cxOf (L2N.CX P w) P w K mg base ["self", "edits", "at", "edit"] "Script.__init__" (defScope s_Script___init__) f cdv A outer s H E) rfl rfl rfl rfl) (fun _ _ _ _ h => h)
  have tk := L2N.takes_of (X := cxOf (L2N.CX P w) P w K mg base ["self", "edits", "at", "edit"] "Script.__init__" (defScope s_Script___init__) f cdv A outer s H E) rfl rfl rfl rfl
  have p0 := L2N.passes_call (E := fun _ _ _ => False) tk (fun _ _ _ _ h => h.elim)
  exact (dss_cons (ds_for (passes_of rfl) rfl (di_enumT rfl T.n_enumerate (de_var 1)) (dg_tup rfl (dgs_cons (dg_name 2 sc_Script___init__.nd) (dgs_cons (dg_name 3 sc_Script___init__.nd) dgs_nil)) (fun _ h => pg_tup rfl h) (gs_len (gs_len gs_len0))) (dss_one (ds_if (dt_not (dt_val (de_call rfl (c_is_edit T) (hr.mono (by decide)) px (da_cons (de_var 3) da_nil)))) (dss_one (ds_raiseG xbV_ok rfl (x_InvalidEdit T) (hr.mono (by decide)) tk (de_var 2) p0)) dss_nil)))
    (dss_cons (ds_if (dt_cmp op_gt od_B0 (de_len rfl T.n_len (da_cons (de_var 1) da_nil)) (de_cst T.cs_Script_MOST)) (dss_one (ds_raiseG xbV_ok rfl (x_TooLong T) (hr.mono (by decide)) tk (de_cst T.cs_Script_MOST) p0)) dss_nil)
    (dss_one (ds_fldI 0 (fldK T.fl_Script_kept) h0 (DO.de (do_list rfl T.n_list (da_cons (de_var 1) da_nil)))))))

theorem c_parse_edit (T : Top P w K mg base tb) : Cal P w K mg base (clsOf mg tb) "parse_edit" 3 1 m_parse_edit := by
  obtain ⟨f, fd, F, hm, hb⟩ := T.d_parse_edit
  refine cal_of (ps := ["text"]) F sc_parse_edit hm hb (fun cdv hcv A outer s H E bx F0 hr => ?_) (fun ds w _ => rfl)
  have px := L2N.passes_call (E := E) (L2N.takes_of (X := cxOf (L2N.CX P w) P w K mg base ["text", "edit"] "parse_edit" (defScope s_parse_edit) f cdv A outer s H E) rfl rfl rfl rfl) (fun _ _ _ _ h => h)
  have tk := L2N.takes_of (X := cxOf (L2N.CX P w) P w K mg base ["text", "edit"] "parse_edit" (defScope s_parse_edit) f cdv A outer s H E) rfl rfl rfl rfl
  have p0 := L2N.passes_call (E := fun _ _ _ => False) tk (fun _ _ _ _ h => h.elim)
  exact (dss_cons (ds_for (passes_of rfl) rfl (di_any rfl (de_call0 rfl (c_shelf T) (hr.mono (by decide)) px)) (dg_name 1 sc_parse_edit.nd) (dss_one (ds_if (dt_cmp (op_eqX (u64 hr)) (od_eq rfl) (de_call rfl (c_format_edit T) (hr.mono (by decide)) px (da_cons (de_var 1) da_nil)) (de_var 0)) (dss_one (ds_ret (de_var 1))) dss_nil)))
    (dss_one (ds_raiseG xbV_ok rfl (x_ParseError T) (hr.mono (by decide)) tk de_int p0)))

theorem f_Script_read (T : Top P w K mg base tb) {f : Addr} {fd : FuncData} (F : Fun K "read" "Script.read" s_Script_read f fd) : FnOk P w K mg base (L2.CX P w) 6 f fd ["cls", "text"] (spC K (clsOf mg tb) "Script" 1 m_Script_read) := by
  refine fnokK_of F sc_Script_read (fun cdv hcv A outer s H E bx F0 hr => ?_) (fun ds w _ => rfl)
  have tk2 := takes_of (X := cxOf (L2.CX P w) P w K mg base ["cls", "text", "edits", "parts", "at", "part"] "Script.read" (defScope s_Script_read) f cdv A outer s H E) rfl rfl rfl rfl
  have px := passes_pl (E := E) tk2 (fun _ _ _ _ h => h)
  have px2 := passes_call (E := E) tk2 (fun _ _ _ _ h => h)
  have tk := Takes.toN tk2
  have p0 := passes_pl (E := fun _ _ _ => False) tk2 (fun _ _ _ _ h => h.elim)
  exact (dss_cons (ds_setO 2 (do_lst da_nil) sc_Script_read.nd)
    (dss_cons (ds_set 3 (de_if (dt_cmp (op_eqX (u64 hr)) (od_eq rfl) (de_var 1) de_str) (DO.de (do_lst da_nil)) (de_split (de_var 1) de_str)) sc_Script_read.nd)
    (dss_cons (ds_for (passes_of rfl) rfl (di_enum rfl T.n_enumerate (de_var 3)) (dg_tup rfl (dgs_cons (dg_name 4 sc_Script_read.nd) (dgs_cons (dg_name 5 sc_Script_read.nd) dgs_nil)) (fun _ h => pg_tup rfl h) (gs_len (gs_len gs_len0))) (dss_one (ds_try1 rfl T.tn_ParseError tk2 (fun hd => L2H.passesAt_of rfl hd) (fun pn xe E tq po => (dss_one (ds_append 2 rfl (de_callE rfl (c_parse_edit T) (hr.mono (by decide)) tq (da_cons (de_var 5) da_nil))))) (fun a oe pn tkS hot => (dss_one (ds_raiseN xbV_ok hot (xh_ParseError T) (RoomH.mark (L2H.roomH_of (hr.mono (by decide)))) tkS (de_var 4)))))))
    (dss_one (ds_frz 2 (ds_ret (de_makeLS 0 rfl (q_ini_Script T) (hr.mono (by decide)) px (de_var 2))))))))
theorem q_cmt_Script_read (T : Top P w K mg base tb) : CmtK P w K mg base (clsOf mg tb) "Script" "read" 6 1 m_Script_read := by
  obtain ⟨C, p, f, mc, fd, h1, h2, h3, F, hb⟩ := T.cm_Script_read
  exact ⟨C, p, f, mc, fd, _, h1, clsOf_eq h1, h2, h3, f_Script_read T F, hb⟩

theorem f_Script_text (T : Top P w K mg base tb) {f : Addr} {fd : FuncData} (F : Fun K "text" "Script.text" s_Script_text f fd) : FnOk P w K mg base (L2N.CX P w) 2 f fd ["self"] (spM K (clsOf mg tb) 1 m_Script_text) := by
  refine fnok_of F sc_Script_text (fun cdv hcv A outer s H E bx F0 hr => ?_) (fun ds w _ => rfl)
  have px := L2N.passes_call (E := E) (L2N.takes_of (X := cxOf (L2N.CX P w) P w K mg base ["self", "edit"] "Script.text" (defScope s_Script_text) f cdv A outer s H E) rfl rfl rfl rfl) (fun _ _ _ _ h => h)
  exact (dss_one (ds_ret (de_join rfl de_str (DO.de (do_lc [("edit", 1)] rfl sc_Script_text.nd (di_any rfl (de_fld (fldK T.fl_Script_kept) (de_var 0))) (blkOk_by (own := [("edit", 1)]) (N := ["self", "edit"]) (sc := defScope s_Script_text) (by decide +kernel)) (fun _ _ _ _ _ => (dg_name 1 sc_Script_text.nd)) (fun _ _ _ _ _ => dts_nil) (fun _ _ _ _ _ => (de_call rfl (c_format_edit T) (hr.mono (by decide)) passLN (da_cons (de_var 1) da_nil))))))))
theorem q_mth_Script_text (T : Top P w K mg base tb) : MthK P w K mg base (clsOf mg tb) "Script" "text" 2 1 m_Script_text := by
  obtain ⟨C, f, fd, h1, h2, h3, F, hb⟩ := T.mt_Script_text
  exact ⟨C, f, fd, _, clsOf_eq h1, h2, h3, f_Script_text T F, hb⟩

theorem c_L_draw (T : Top P w K mg base tb) : Cal P w K mg base (clsOf mg tb) "_law_draw" 1 2 m_L_draw := by
  obtain ⟨f, fd, F, hm, hb⟩ := T.d_L_draw
  refine cal_of (ps := ["_law_box", "_law_many"]) F sc_L_draw hm hb (fun cdv hcv A outer s H E bx F0 hr => ?_) (fun ds w _ => rfl)
  have px := L2N.passes_call (E := E) (L2N.takes_of (X := cxOf (L2N.CX P w) P w K mg base ["_law_box", "_law_many", "_law_cell", "_law_found"] "_law_draw" (defScope s_L_draw) f cdv A outer s H E) rfl rfl rfl rfl) (fun _ _ _ _ h => h)
  exact (dss_cons (ds_if (DW.t (dw_and (dt_cmp (op_eqX (u64 hr)) (od_eq rfl) (de_bx 0 2 rfl) de_int) (dw_and1 (dt_cmp op_ltX od_lt (de_bx 0 1 rfl) (de_len rfl T.n_len (da_cons (de_bx 0 0 rfl) da_nil)))))) (dss_cons (ds_set 2 (de_ix rfl (de_bx 0 0 rfl) (de_bx 0 1 rfl)) sc_L_draw.nd)
    (dss_cons (ds_bx 0 1 (de_op op_addX (od_add rfl) (de_bx 0 1 rfl) de_int))
    (dss_one (ds_if (dt_cmp op_ge od_B0 (de_var 2) (de_op op_pow od_pow de_int de_int)) (dss_one (ds_bx 0 2 (de_var 2))) (dss_one (ds_bx 0 3 (de_op op_mod od_mod (de_op op_addX (od_add rfl) (de_op op_addX (od_add rfl) (de_op op_mulX od_mul (de_bx 0 3 rfl) de_int) (de_op op_mod od_mod (de_var 2) de_int)) (de_op op_mulX od_mul (de_bx 0 1 rfl) de_int)) de_int))))))) dss_nil)
    (dss_cons (ds_if (dt_cmp op_gt od_B0 (de_bx 0 2 rfl) de_int) (dss_cons (ds_set 3 (de_op op_mod od_mod (de_bx 0 2 rfl) (de_var 1)) sc_L_draw.nd)
    (dss_cons (ds_bx 0 2 (de_op op_fdiv od_div (de_bx 0 2 rfl) (de_var 1)))
    (dss_one (ds_ret (de_var 3))))) dss_nil)
    (dss_cons (ds_bx 0 3 (de_op op_mod od_mod (de_op op_addX (od_add rfl) (de_op op_mulX od_mul (de_bx 0 3 rfl) de_int) de_int) de_int))
    (dss_one (ds_ret (de_op op_mod od_mod (de_op op_fdiv od_div (de_op op_mod od_mod (de_op op_mulX od_mul (de_bx 0 3 rfl) (de_bx 0 3 rfl)) de_int) de_int) (de_var 1)))))))

theorem c_L_any (T : Top P w K mg base tb) : Cal P w K mg base (clsOf mg tb) "_law_any" 2 2 m_L_any := by
  obtain ⟨f, fd, F, hm, hb⟩ := T.d_L_any
  refine cal_of (ps := ["_law_box", "_law_things"]) F sc_L_any hm hb (fun cdv hcv A outer s H E bx F0 hr => ?_) (fun ds w _ => rfl)
  have px := L2N.passes_call (E := E) (L2N.takes_of (X := cxOf (L2N.CX P w) P w K mg base ["_law_box", "_law_things"] "_law_any" (defScope s_L_any) f cdv A outer s H E) rfl rfl rfl rfl) (fun _ _ _ _ h => h)
  exact (dss_one (ds_ret (de_ix rfl (de_var 1) (de_call rfl (c_L_draw T) (hr.mono (by decide)) px (da_cons (de_var 0) (da_cons (de_len rfl T.n_len (da_cons (de_var 1) da_nil)) da_nil))))))

theorem c_L_place (T : Top P w K mg base tb) : Cal P w K mg base (clsOf mg tb) "_law_place" 3 1 m_L_place := by
  obtain ⟨f, fd, F, hm, hb⟩ := T.d_L_place
  refine cal_of (ps := ["_law_box"]) F sc_L_place hm hb (fun cdv hcv A outer s H E bx F0 hr => ?_) (fun ds w _ => rfl)
  have px := L2N.passes_call (E := E) (L2N.takes_of (X := cxOf (L2N.CX P w) P w K mg base ["_law_box"] "_law_place" (defScope s_L_place) f cdv A outer s H E) rfl rfl rfl rfl) (fun _ _ _ _ h => h)
  exact (dss_one (ds_ret (de_tup (da_cons (de_call rfl (c_L_any T) (hr.mono (by decide)) px (da_cons (de_var 0) (da_cons de_str da_nil))) (da_cons (de_op op_addX (od_add rfl) de_int (de_call rfl (c_L_draw T) (hr.mono (by decide)) px (da_cons (de_var 0) (da_cons de_int da_nil)))) (da_cons (de_call rfl (c_L_any T) (hr.mono (by decide)) px (da_cons (de_var 0) (da_cons (DO.de (do_lst (da_cons de_str (da_cons de_str da_nil)))) da_nil))) da_nil))))))

theorem c_L_edit (T : Top P w K mg base tb) : Cal P w K mg base (clsOf mg tb) "_law_edit" 4 1 m_L_edit := by
  obtain ⟨f, fd, F, hm, hb⟩ := T.d_L_edit
  refine cal_of (ps := ["_law_box"]) F sc_L_edit hm hb (fun cdv hcv A outer s H E bx F0 hr => ?_) (fun ds w _ => rfl)
  have px := L2N.passes_call (E := E) (L2N.takes_of (X := cxOf (L2N.CX P w) P w K mg base ["_law_box", "_law_word", "_law_spot"] "_law_edit" (defScope s_L_edit) f cdv A outer s H E) rfl rfl rfl rfl) (fun _ _ _ _ h => h)
  exact (dss_cons (ds_set 1 (de_call rfl (c_L_any T) (hr.mono (by decide)) px (da_cons (de_var 0) (da_cons (DO.de (do_lst (da_cons de_str (da_cons de_str (da_cons de_str (da_cons de_str (da_cons de_str (da_cons de_str (da_cons de_str (da_cons de_str (da_cons de_str da_nil))))))))))) da_nil))) sc_L_edit.nd)
    (dss_cons (ds_if (dt_cmp (op_eqX (u64 hr)) (od_eq rfl) (de_var 1) de_str) (dss_one (ds_ret (de_tup (da_cons (de_var 1) da_nil)))) dss_nil)
    (dss_cons (ds_if (dt_cmp (op_inX (u65 hr)) (od_in rfl) (de_var 1) (de_tup (da_cons de_str (da_cons de_str da_nil)))) (dss_one (ds_ret (de_tup (da_cons (de_var 1) (da_cons (de_call rfl (c_L_any T) (hr.mono (by decide)) px (da_cons (de_var 0) (da_cons de_str da_nil))) da_nil))))) dss_nil)
    (dss_cons (ds_set 2 (de_call rfl (c_L_place T) (hr.mono (by decide)) px (da_cons (de_var 0) da_nil)) sc_L_edit.nd)
    (dss_one (ds_ret (de_if (dt_cmp (op_inX (u65 hr)) (od_in rfl) (de_var 1) (de_tup (da_cons de_str (da_cons de_str da_nil)))) (de_tup (da_cons (de_var 1) (da_cons (de_var 2) (da_cons (de_call rfl (c_L_any T) (hr.mono (by decide)) px (da_cons (de_var 0) (da_cons de_str da_nil))) da_nil)))) (de_tup (da_cons (de_var 1) (da_cons (de_var 2) da_nil))))))))))

theorem c_L_edits (T : Top P w K mg base tb) : Cal P w K mg base (clsOf mg tb) "_law_edits" 5 2 m_L_edits := by
  obtain ⟨f, fd, F, hm, hb⟩ := T.d_L_edits
  refine cal_of (ps := ["_law_box", "_law_most"]) F sc_L_edits hm hb (fun cdv hcv A outer s H E bx F0 hr => ?_) (fun ds w _ => rfl)
  have px := L2N.passes_call (E := E) (L2N.takes_of (X := cxOf (L2N.CX P w) P w K mg base ["_law_box", "_law_most", "_law_k"] "_law_edits" (defScope s_L_edits) f cdv A outer s H E) rfl rfl rfl rfl) (fun _ _ _ _ h => h)
  exact (dss_one (ds_ret (DO.de (do_lc [("_law_k", 2)] rfl sc_L_edits.nd (di_range T.n_range (da_cons (de_call rfl (c_L_draw T) (hr.mono (by decide)) px (da_cons (de_var 0) (da_cons (de_op op_addX (od_add rfl) (de_var 1) de_int) da_nil))) da_nil)) (blkOk_by (own := [("_law_k", 2)]) (N := ["_law_box", "_law_most", "_law_k"]) (sc := defScope s_L_edits) (by decide +kernel)) (fun _ _ _ _ _ => (dg_name 2 sc_L_edits.nd)) (fun _ _ _ _ _ => dts_nil) (fun _ _ _ _ _ => (de_call rfl (c_L_edit T) (hr.mono (by decide)) passLN (da_cons (de_var 0) da_nil)))))))

theorem c_L_whole (T : Top P w K mg base tb) : Cal P w K mg base (clsOf mg tb) "_law_whole" 1 1 m_L_whole := by
  obtain ⟨f, fd, F, hm, hb⟩ := T.d_L_whole
  refine cal_of (ps := ["_law_found"]) F sc_L_whole hm hb (fun cdv hcv A outer s H E bx F0 hr => ?_) (fun ds w _ => rfl)
  have px := L2N.passes_call (E := E) (L2N.takes_of (X := cxOf (L2N.CX P w) P w K mg base ["_law_found"] "_law_whole" (defScope s_L_whole) f cdv A outer s H E) rfl rfl rfl rfl) (fun _ _ _ _ h => h)
  exact (dss_one (ds_ret (de_and (de_isi rfl kit_int T.n_int (by decide +kernel) T.n_isinstance (de_var 0)) (de_one (de_not (de_isi rfl kit_bool T.n_bool (by decide +kernel) T.n_isinstance (de_var 0)))))))

theorem c_L_same (T : Top P w K mg base tb) : ∀ k : Nat, Cal P w K mg base (clsOf mg tb) "_law_same" (k + 1) 2 (mSame k)
  | 0 => by
    obtain ⟨f, fd, F, hm, hb⟩ := T.d_L_same
    exact cal_of (ps := ["_law_found", "_law_due"]) (k := 0) F sc_L_same hm hb (body := fun _ _ => .bad) (fun cdv hcv A outer s H E bx F0 hr => ⟨_, pss_never, fun _ _ _ _ _ _ _ _ h => h⟩) (fun ds w h => absurd (mSame_zero ds w) h)
  | k + 1 => by
    obtain ⟨f, fd, F, hm, hb⟩ := T.d_L_same
    have ih := c_L_same T k
    refine cal_of (ps := ["_law_found", "_law_due"]) F sc_L_same hm hb (fun cdv hcv A outer s H E bx F0 hr => ?_) (same_ok k)
    have px := L2N.passes_call (E := E) (L2N.takes_of (X := cxOf (L2N.CX P w) P w K mg base ["_law_found", "_law_due", "_law_one", "_law_other"] "_law_same" (defScope s_L_same) f cdv A outer s H E) rfl rfl rfl rfl) (fun _ _ _ _ h => h)
    exact (dss_cons (ds_if (dt_cmp op_isN od_is (de_var 1) de_non) (dss_one (ds_ret (de_cmp op_isN od_is (de_var 0) de_non))) dss_nil)
    (dss_cons (ds_if (dt_val (de_isi rfl kit_bool T.n_bool (by decide +kernel) T.n_isinstance (de_var 1))) (dss_one (ds_ret (de_and (de_isi rfl kit_bool T.n_bool (by decide +kernel) T.n_isinstance (de_var 0)) (de_one (de_cmp (op_eqX (u64 hr)) (od_eq rfl) (de_var 0) (de_var 1)))))) dss_nil)
    (dss_cons (ds_if (dt_val (de_isi rfl kit_int T.n_int (by decide +kernel) T.n_isinstance (de_var 1))) (dss_one (ds_ret (de_and (de_call rfl (c_L_whole T) (hr.mono (by omega)) px (da_cons (de_var 0) da_nil)) (de_one (de_cmp (op_eqX (u64 hr)) (od_eq rfl) (de_var 0) (de_var 1)))))) dss_nil)
    (dss_cons (ds_if (dt_val (de_isi rfl kit_str T.n_str (by decide +kernel) T.n_isinstance (de_var 1))) (dss_one (ds_ret (de_and (de_isi rfl kit_str T.n_str (by decide +kernel) T.n_isinstance (de_var 0)) (de_one (de_cmp (op_eqX (u64 hr)) (od_eq rfl) (de_var 0) (de_var 1)))))) dss_nil)
    (dss_cons (ds_if (DW.t (dw_and (dt_val (de_isi rfl kit_tuple T.n_tuple (by decide +kernel) T.n_isinstance (de_var 1))) (dw_and1 (dt_not (dt_val (de_isi rfl kit_tuple T.n_tuple (by decide +kernel) T.n_isinstance (de_var 0))))))) (dss_one (ds_ret de_bl)) dss_nil)
    (dss_cons (ds_if (DW.t (dw_and (dt_val (de_isi rfl kit_list T.n_list (by decide +kernel) T.n_isinstance (de_var 1))) (dw_and1 (dt_not (dt_val (de_isi rfl kit_list T.n_list (by decide +kernel) T.n_isinstance (de_var 0))))))) (dss_one (ds_ret de_bl)) dss_nil)
    (dss_one (ds_ret (de_and (de_cmp (op_eqX (u64 hr)) (od_eq rfl) (de_len rfl T.n_len (da_cons (de_var 0) da_nil)) (de_len rfl T.n_len (da_cons (de_var 1) da_nil))) (de_one (de_all rfl rfl T.n_all (da_cons (DO.de (do_lc [("_law_one", 2), ("_law_other", 3)] rfl sc_L_same.nd (di_zip rfl T.n_zip (da_cons (de_var 0) (da_cons (de_var 1) da_nil))) (blkOk_by (own := [("_law_one", 2), ("_law_other", 3)]) (N := ["_law_found", "_law_due", "_law_one", "_law_other"]) (sc := defScope s_L_same) (by decide +kernel)) (fun _ _ _ _ _ => (dg_tup rfl (dgs_cons (dg_name 2 sc_L_same.nd) (dgs_cons (dg_name 3 sc_L_same.nd) dgs_nil)) (fun _ h => pg_tup rfl h) (gs_len (gs_len gs_len0)))) (fun _ _ _ _ _ => dts_nil) (fun _ _ _ _ _ => (de_call rfl ih (hr.mono (by omega)) passLN (da_cons (de_var 2) (da_cons (de_var 3) da_nil)))))) da_nil))))))))))))

theorem f_Script___add__ (T : Top P w K mg base tb) {f : Addr} {fd : FuncData} (F : Fun K "__add__" "Script.__add__" s_Script___add__ f fd) : FnOk P w K mg base (L2N.CX P w) 6 f fd ["self", "other"] (spM K (clsOf mg tb) 2 m_Script___add__) := by
  refine fnok_of F sc_Script___add__ (fun cdv hcv A outer s H E bx F0 hr => ?_) (fun ds w _ => rfl)
  have px := L2N.passes_call (E := E) (L2N.takes_of (X := cxOf (L2N.CX P w) P w K mg base ["self", "other", "edits"] "Script.__add__" (defScope s_Script___add__) f cdv A outer s H E) rfl rfl rfl rfl) (fun _ _ _ _ h => h)
  exact (dss_cons (ds_set 2 (de_op op_addX (od_add rfl) (de_fld (fldK T.fl_Script_kept) (de_var 0)) (de_fld (fldK T.fl_Script_kept) (de_var 1))) sc_Script___add__.nd)
    (dss_one (ds_ret (de_makeS rfl (q_ini_Script T) (hr.mono (by decide)) px (de_var 2)))))
theorem q_op_Script___add__ (T : Top P w K mg base tb) : OpK P w K mg base (clsOf mg tb) "Script" "__add__" 6 m_Script___add__ := by
  obtain ⟨C, f, fd, h1, h2, h3, h4, F, hb⟩ := T.op_Script___add__
  exact ⟨C, f, fd, _, clsOf_eq h1, h2, h3, h4, f_Script___add__ T F, hb⟩

theorem c_L_script (T : Top P w K mg base tb) : Cal P w K mg base (clsOf mg tb) "_law_script" 7 1 m_L_script := by
  obtain ⟨f, fd, F, hm, hb⟩ := T.d_L_script
  refine cal_of (ps := ["_law_edits_here"]) F sc_L_script hm hb (fun cdv hcv A outer s H E bx F0 hr => ?_) (fun ds w _ => rfl)
  have px := L2N.passes_call (E := E) (L2N.takes_of (X := cxOf (L2N.CX P w) P w K mg base ["_law_edits_here", "_law_found", "_law_each"] "_law_script" (defScope s_L_script) f cdv A outer s H E) rfl rfl rfl rfl) (fun _ _ _ _ h => h)
  exact (dss_cons (ds_set 1 (de_make0 rfl (q_ini_Script T) (hr.mono (by decide)) px) sc_L_script.nd)
    (dss_cons (ds_for (passes_of rfl) rfl (di_any rfl (de_var 0)) (dg_name 2 sc_L_script.nd) (dss_one (ds_set 1 (de_own rfl (q_op_Script___add__ T) (hr.mono (by decide)) px (de_var 1) (de_make rfl (q_ini_Script T) (hr.mono (by decide)) px (da_cons (de_var 2) da_nil))) sc_L_script.nd)))
    (dss_one (ds_ret (de_var 1)))))

theorem c_L_spelled_all (T : Top P w K mg base tb) : Cal P w K mg base (clsOf mg tb) "_law_spelled_all" 2 1 m_L_spelled_all := by
  obtain ⟨f, fd, F, hm, hb⟩ := T.d_L_spelled_all
  refine cal_of (ps := ["_law_edits_here"]) F sc_L_spelled_all hm hb (fun cdv hcv A outer s H E bx F0 hr => ?_) (fun ds w _ => rfl)
  have px := L2N.passes_call (E := E) (L2N.takes_of (X := cxOf (L2N.CX P w) P w K mg base ["_law_edits_here", "_law_edit_here"] "_law_spelled_all" (defScope s_L_spelled_all) f cdv A outer s H E) rfl rfl rfl rfl) (fun _ _ _ _ h => h)
  exact (dss_one (ds_ret (de_join rfl de_str (DO.de (do_lc [("_law_edit_here", 1)] rfl sc_L_spelled_all.nd (di_any rfl (de_var 0)) (blkOk_by (own := [("_law_edit_here", 1)]) (N := ["_law_edits_here", "_law_edit_here"]) (sc := defScope s_L_spelled_all) (by decide +kernel)) (fun _ _ _ _ _ => (dg_name 1 sc_L_spelled_all.nd)) (fun _ _ _ _ _ => dts_nil) (fun _ _ _ _ _ => (de_call rfl (c_L_spelled T) (hr.mono (by decide)) passLN (da_cons (de_var 1) da_nil))))))))

theorem ok_law (T : Top P w K mg base tb) : ∃ f fd, Fun K "law" "law" s_law f fd ∧ mg "law" = some (.ref f) ∧ FnOk P w K mg base (L2N.CX P w) 10 f fd ["_law_script_here"] (spLaw K tb) := by
  obtain ⟨f, fd, F, hm, hb⟩ := T.d_law
  obtain ⟨fo, fdo, FO, mo, ko, bo⟩ := ok_open (P := P) (w := w) (base := base) (tb := tb) T
  obtain ⟨fl, cc, PP, hml, hcc, TB, hmem, huni⟩ := T.lam_law
  obtain rfl : f = fl := by rw [hm] at hml; cases hml; rfl
  refine ⟨f, fd, F, hm, law_of (cls := clsOf mg tb) (body := g_law) F sc_law ⟨_, rfl⟩ rfl (fun cdv A outer s H E hr => ps_set (i := 1) sc_law.nd rfl (.inr rfl) (pe_call FO (hr.mono (by decide)) rfl mo ko bo .nil passLN (pa_cons (pv 0) pa_nil))) (fun cdv hcv A outer s H E bx F0 H0 hcl hr => ?_) (fun w _ => law_true w)⟩
  obtain rfl := hcc cdv hcv
  have px := L2N.passes_call (E := E) (L2N.takes_of (X := cxOf (L2N.CX P w) P w K mg base ["_law_script_here", "_law_box", "_law_turn", "_law_some", "_law_text", "_law_made", "_law_parts", "_law_at", "_law_due", "_law_spoilt", "_law_k"] "law" (defScope s_law) f (.ref cc) A outer s H E) rfl rfl rfl rfl) (fun _ _ _ _ h => h)
  exact (dss_cons (ds_for (passes_of rfl) rfl (di_range T.n_range (da_cons de_int da_nil)) (dg_name 2 sc_law.nd) (dss_cons (ds_set 3 (de_call rfl (c_L_edits T) (hr.mono (by decide)) px (da_cons (de_var 1) (da_cons de_int da_nil))) sc_law.nd)
    (dss_cons (ds_set 4 (de_call rfl (c_L_spelled_all T) (hr.mono (by decide)) px (da_cons (de_var 3) da_nil)) sc_law.nd)
    (dss_cons (ds_set 5 (de_cmethN rfl (q_cmt_Script_read T) (hr.mono (by decide)) (da_cons (de_var 4) da_nil)) sc_law.nd)
    (dss_cons (ds_if (DW.t (dw_or (dt_not (dt_val (de_isG rfl T.ig_Script T.n_isinstance (de_var 5)))) (dw_or1 (dt_not (dt_val (de_call rfl (c_L_same T 8) (hr.mono (by decide)) px (da_cons (DO.de (do_lst (da_cons (de_meth0 rfl (q_mth_Script_edits T) (hr.mono (by decide)) px (de_var 5)) (da_cons (de_meth0 rfl (q_mth_Script_text T) (hr.mono (by decide)) px (de_var 5)) da_nil)))) (da_cons (DO.de (do_lst (da_cons (de_var 3) (da_cons (de_var 4) da_nil)))) da_nil)))))))) (dss_one (ds_ret de_bl)) dss_nil)
    (dss_cons (ds_if (dt_not (dt_val (de_call rfl (c_L_same T 8) (hr.mono (by decide)) px (da_cons (de_meth0 rfl (q_mth_Script_text T) (hr.mono (by decide)) px (de_call rfl (c_L_script T) (hr.mono (by decide)) px (da_cons (de_var 3) da_nil))) (da_cons (de_var 4) da_nil))))) (dss_one (ds_ret de_bl)) dss_nil)
    (dss_cons (ds_setLcO 6 [("_law_k", 10)] rfl sc_law.nd rfl rfl (sw_true rfl rfl rfl (by decide +kernel)) (di_range T.n_range (da_cons (de_op op_addX (od_add rfl) de_int (de_call rfl (c_L_draw T) (hr.mono (by decide)) px (da_cons (de_var 1) (da_cons de_int da_nil)))) da_nil)) (blkOk_by (own := [("_law_k", 10)]) (N := ["_law_script_here", "_law_box", "_law_turn", "_law_some", "_law_text", "_law_made", "_law_parts", "_law_at", "_law_due", "_law_spoilt", "_law_k"]) (sc := defScope s_law) (by decide +kernel)) (fun _ _ _ _ _ => (dg_name 10 sc_law.nd)) (fun _ _ _ _ _ => dts_nil) (fun _ _ _ _ _ => (de_call rfl (c_L_spelled T) (hr.mono (by decide)) passLN (da_cons (de_call rfl (c_L_edit T) (hr.mono (by decide)) passLN (da_cons (de_var 1) da_nil)) da_nil))))
    (dss_cons (ds_set 7 (de_call rfl (c_L_draw T) (hr.mono (by decide)) px (da_cons (de_var 1) (da_cons (de_lenO 6 rfl T.n_len) da_nil))) sc_law.nd)
    (dss_cons (ds_set 8 (de_if (dt_cmp op_gt od_B0 (de_lenO 6 rfl T.n_len) de_int) (de_tup (da_cons de_str (da_cons de_int da_nil))) (de_tup (da_cons de_str (da_cons de_non da_nil)))) sc_law.nd)
    (dss_cons (ds_if (dt_cmp (op_eqX (u64 hr)) (od_eq rfl) (de_call rfl (c_L_draw T) (hr.mono (by decide)) px (da_cons (de_var 1) (da_cons de_int da_nil))) de_int) (dss_cons (ds_put 6 (de_var 7) (de_call rfl (c_L_any T) (hr.mono (by decide)) px (da_cons (de_var 1) (da_cons (DO.de (do_lst (da_cons de_str (da_cons de_str (da_cons de_str (da_cons de_str (da_cons de_str (da_cons de_str (da_cons de_str da_nil))))))))) da_nil))))
    (dss_cons (ds_set 8 (de_tup (da_cons de_str (da_cons (de_var 7) da_nil))) sc_law.nd)
    (dss_one (ds_if (DW.t (dw_and (dt_cmp (op_eqX (u64 hr)) (od_eq rfl) (de_lenO 6 rfl T.n_len) de_int) (dw_and1 (dt_cmp (op_eqX (u64 hr)) (od_eq rfl) (de_ixO 6 rfl de_int) de_str)))) (dss_one (ds_set 8 (de_tup (da_cons de_str (da_cons de_non da_nil))) sc_law.nd)) dss_nil)))) dss_nil)
    (dss_cons (ds_frz 6 (ds_set 9 (de_join rfl de_str (de_var 6)) sc_law.nd))
    (dss_one (ds_if (dt_cmp (op_neX (u64 hr)) (od_ne rfl) (de_refused (k := 6) rfl T.ref TB rfl hmem huni (hr.mono (by decide)) (fun A outer s H E f c' hr => (de_cmeth rfl (q_cmt_Script_read T) (hr.mono (by decide)) (passes_call (takes_of rfl rfl rfl rfl) (fun _ _ _ _ h => h)) (da_cons (de_var 9) da_nil))) (LamX.lamS_by (sc := defScope s_law) (by decide +kernel))) (de_var 8)) (dss_one (ds_ret de_bl)) dss_nil)))))))))))))
    (dss_one (ds_ret (de_and (de_cmp (op_eqX (u64 hr)) (od_eq rfl) (de_refused (k := 6) rfl T.ref TB rfl hmem huni (hr.mono (by decide)) (fun A outer s H E f c' hr => (de_cmeth rfl (q_cmt_Script_read T) (hr.mono (by decide)) (passes_call (takes_of rfl rfl rfl rfl) (fun _ _ _ _ h => h)) (da_cons de_str da_nil))) (LamX.lamS_by (sc := defScope s_law) (by decide +kernel))) (de_tup (da_cons de_str (da_cons de_int da_nil)))) (de_one (de_cmp (op_eqX (u64 hr)) (od_eq rfl) (de_lenI rfl (q_mth_Script___len__ T) (hr.mono (by decide)) px T.n_len (de_cmethN rfl (q_cmt_Script_read T) (hr.mono (by decide)) (da_cons de_str da_nil))) de_int))))))
end
theorem all_mk {l : PySem.W.OpenLaw} {w : World} {K : Fr} {h : Heap} {mg : Str → Option Value} {fa : Addr} (hl : l.prog = PySem.Challenge.pw_countedplace_k16_texts_of_scripts) (X : K.In h) (G : h.Ns mainGlobals mg) (hfa : mg "law" = some (.ref fa)) (S : Says tell w h K) :
    LamX.LawAtS l w K (L2N.CX l.prog w) 10 63 "_law_script_here" mg fa h := by
  obtain ⟨fd0, F0⟩ := S.f 0 (x := a0) rfl rfl
  obtain ⟨fd1, F1⟩ := S.f 1 (x := a1) rfl rfl
  obtain ⟨fd2, F2⟩ := S.f 2 (x := a2) rfl rfl
  obtain ⟨fd3, F3⟩ := S.f 3 (x := a3) rfl rfl
  obtain ⟨ocR, odR, kVR, dcR, pmR, anR, cdR, ctR, slR, eR, lR, cR⟩ := F3.ex
  subst eR
  obtain ⟨fd4, F4⟩ := S.f 4 (x := a4) rfl rfl
  obtain ⟨fd5, F5⟩ := S.f 5 (x := a5) rfl rfl
  obtain ⟨fd6, F6⟩ := S.f 6 (x := a6) rfl rfl
  obtain ⟨fd7, F7⟩ := S.f 7 (x := a7) rfl rfl
  obtain ⟨tk9, hk9⟩ := isVal_ok (S.q 107 (q := c107) rfl)
  obtain ⟨fd8, F8⟩ := S.f 8 (x := a8) rfl rfl
  obtain ⟨fd9, F9⟩ := S.f 9 (x := a9) rfl rfl
  obtain ⟨fd10, F10⟩ := S.f 10 (x := a10) rfl rfl
  obtain ⟨fd11, F11⟩ := S.f 11 (x := a11) rfl rfl
  obtain ⟨fd12, F12⟩ := S.f 12 (x := a12) rfl rfl
  obtain ⟨fd13, F13⟩ := S.f 13 (x := a13) rfl rfl
  obtain ⟨fd14, F14⟩ := S.f 14 (x := a14) rfl rfl
  obtain ⟨fd15, F15⟩ := S.f 15 (x := a15) rfl rfl
  obtain ⟨fd16, F16⟩ := S.f 16 (x := a16) rfl rfl
  obtain ⟨fd17, F17⟩ := S.f 17 (x := a17) rfl rfl
  obtain ⟨fd18, F18⟩ := S.f 18 (x := a18) rfl rfl
  obtain ⟨fd19, F19⟩ := S.f 19 (x := a19) rfl rfl
  obtain ⟨fd20, F20⟩ := S.f 20 (x := a20) rfl rfl
  obtain ⟨fd21, F21⟩ := S.f 21 (x := a21) rfl rfl
  obtain ⟨fd22, F22⟩ := S.f 22 (x := a22) rfl rfl
  obtain ⟨fd23, F23⟩ := S.f 23 (x := a23) rfl rfl
  obtain ⟨fd24, F24⟩ := S.f 24 (x := a24) rfl rfl
  obtain ⟨fd25, F25⟩ := S.f 25 (x := a25) rfl rfl
  obtain ⟨fd26, F26⟩ := S.f 26 (x := a26) rfl rfl
  obtain ⟨fd27, F27⟩ := S.f 27 (x := a27) rfl rfl
  obtain ⟨fd28, F28⟩ := S.f 28 (x := a28) rfl rfl
  obtain ⟨lt0, lh0, lo0, lg0⟩ := S.lamt 0 (x := "law") rfl
  have e := hfa.symm.trans (PySem.W.mg_of X G (S.q 135 (q := c135) rfl))
  cases e
  rw [hl]
  refine ⟨fd28, [(lamC K "law", lamP K "law")], spLaw K [(lamP K "law", ("law" ++ ".<locals>." ++ "<lambda>"))], all1 (lg0), all1 (lo0), all1 (PySem.W.codeHd_of_K X lh0), fun s v => by obtain ⟨_, _, _, _, _, _, _, _, _, e, _, _⟩ := F28.ex; rw [e]; exact .of_eq rfl, fun H a ns hl _ hH hS => ⟨a, ns, rfl, hS, hl, tabs_start (all1 (hH _ (.head _))), fun _ => rfl⟩, fun base _ _ hTB => ?_⟩
  have T : Top PySem.Challenge.pw_countedplace_k16_texts_of_scripts w K mg base [(lamP K "law", ("law" ++ ".<locals>." ++ "<lambda>"))] := ⟨PySem.W.mg_none_of X G (S.q 0 (q := c0) rfl), PySem.W.mg_none_of X G (S.q 1 (q := c1) rfl), PySem.W.mg_none_of X G (S.q 2 (q := c2) rfl), PySem.W.mg_none_of X G (S.q 3 (q := c3) rfl), PySem.W.mg_none_of X G (S.q 4 (q := c4) rfl), PySem.W.mg_none_of X G (S.q 5 (q := c5) rfl), PySem.W.mg_none_of X G (S.q 6 (q := c6) rfl), PySem.W.mg_none_of X G (S.q 7 (q := c7) rfl), PySem.W.mg_none_of X G (S.q 8 (q := c8) rfl), PySem.W.mg_none_of X G (S.q 9 (q := c9) rfl), PySem.W.mg_none_of X G (S.q 10 (q := c10) rfl), glb_tupB (X := X) G (S.q 11 (q := c11) rfl) (S.q 12 (q := c12) rfl) fun _ _ => (.cons (.str _) (.cons (.str _) .nil)), glb_tupB (X := X) G (S.q 13 (q := c13) rfl) (S.q 14 (q := c14) rfl) fun _ _ => (.cons (.int _) (.cons (.int _) .nil)), glb_strB (X := X) G (S.q 15 (q := c15) rfl), ⟨(He.ga K "Script"), (He.ma K (He.ga K "Script") "read"), (propF K (He.ma K (He.ga K "Script") "read") "classmethod"), .type "type", _, (PySem.W.mg_of X G (S.q 20 (q := c20) rfl)), ⟨(S.q 16 (q := c16) rfl), (S.q 17 (q := c17) rfl)⟩, ⟨(isGet_ok (S.q 18 (q := c18) rfl)), ⟨_, (S.q 19 (q := c19) rfl)⟩, (S.q 21 (q := c21) rfl)⟩, F0, (F0.binds (ps := ["cls", "text"]) fun _ _ _ _ _ _ us hl => match us, hl with | [_, _], _ => rfl)⟩, ⟨(He.ga K "Script"), (PySem.W.mg_of X G (S.q 20 (q := c20) rfl)), (tbB_cons ⟨(He.ga K "Script"), clsOf_eq (PySem.W.mg_of X G (S.q 20 (q := c20) rfl)), ⟨⟨(S.q 27 (q := c27) rfl), (S.q 28 (q := c28) rfl), (S.q 29 (q := c29) rfl), (S.q 30 (q := c30) rfl)⟩, (S.q 23 (q := c23) rfl), (S.q 24 (q := c24) rfl), (S.q 25 (q := c25) rfl), (S.q 26 (q := c26) rfl), kit_self⟩, (S.q 22 (q := c22) rfl)⟩ tbB_nil), all6 (S.q 31 (q := c31) rfl) (S.q 32 (q := c32) rfl) (S.q 33 (q := c33) rfl) (S.q 34 (q := c34) rfl) (S.q 35 (q := c35) rfl) (S.q 36 (q := c36) rfl)⟩, ⟨(He.ga K "Script"), (He.ma K (He.ga K "Script") "text"), _, (PySem.W.mg_of X G (S.q 20 (q := c20) rfl)), ⟨(S.q 27 (q := c27) rfl), (S.q 28 (q := c28) rfl), (S.q 29 (q := c29) rfl), (S.q 30 (q := c30) rfl)⟩, ⟨(S.q 37 (q := c37) rfl), (S.q 38 (q := c38) rfl), F1.kp⟩, F1, (F1.binds (ps := ["self"]) fun _ _ _ _ _ _ us hl => match us, hl with | [_], _ => rfl)⟩, ⟨(He.ga K "Script"), (He.ma K (He.ga K "Script") "edits"), _, (PySem.W.mg_of X G (S.q 20 (q := c20) rfl)), ⟨(S.q 27 (q := c27) rfl), (S.q 28 (q := c28) rfl), (S.q 29 (q := c29) rfl), (S.q 30 (q := c30) rfl)⟩, ⟨(S.q 39 (q := c39) rfl), (S.q 40 (q := c40) rfl), F2.kp⟩, F2, (F2.binds (ps := ["self"]) fun _ _ _ _ _ _ us hl => match us, hl with | [_], _ => rfl)⟩, ⟨(He.ga K "_law_refused"), "_law_ask", "_law_told", "e", _, _, _, _, _, _, _, _, _, _, _, _, _, _, _, _, _, _, _, _, _, _, _, _, _, _, _, _, _, (PySem.W.mg_of X G (S.q 86 (q := c86) rfl)), F3.kp, lR, cR, F3.binds (ps := ["_law_ask"]) fun _ _ _ _ _ _ us hl => match us, hl with | [_], _ => rfl, sc_L_refused, rfl, rfl, rfl, by decide, (.fld (.tup (.cons rfl (PySem.W.mg_of X G (S.q 60 (q := c60) rfl)) rfl (.cons rfl (PySem.W.mg_of X G (S.q 59 (q := c59) rfl)) rfl (.cons rfl (PySem.W.mg_of X G (S.q 58 (q := c58) rfl)) rfl .nil))) (Nat.le_of_ble_eq_true rfl) (Nat.le_of_ble_eq_true rfl)) (by decide) (.fld (.tup (.cons rfl (PySem.W.mg_of X G (S.q 57 (q := c57) rfl)) rfl (.cons rfl (PySem.W.mg_of X G (S.q 56 (q := c56) rfl)) rfl (.cons rfl (PySem.W.mg_of X G (S.q 55 (q := c55) rfl)) rfl .nil))) (Nat.le_of_ble_eq_true rfl) (Nat.le_of_ble_eq_true rfl)) (by decide) (.fld (.tup (.cons rfl (PySem.W.mg_of X G (S.q 54 (q := c54) rfl)) rfl (.cons rfl (PySem.W.mg_of X G (S.q 53 (q := c53) rfl)) rfl .nil)) (Nat.le_of_ble_eq_true rfl) (Nat.le_of_ble_eq_true rfl)) (by decide) (.fld (.tup (.cons rfl (PySem.W.mg_of X G (S.q 52 (q := c52) rfl)) rfl (.cons rfl (PySem.W.mg_of X G (S.q 51 (q := c51) rfl)) rfl .nil)) (Nat.le_of_ble_eq_true rfl) (Nat.le_of_ble_eq_true rfl)) (by decide) (.fld (.tup (.cons rfl (PySem.W.mg_of X G (S.q 50 (q := c50) rfl)) rfl (.cons rfl (PySem.W.mg_of X G (S.q 49 (q := c49) rfl)) rfl (.cons rfl (PySem.W.mg_of X G (S.q 48 (q := c48) rfl)) rfl (.cons rfl (PySem.W.mg_of X G (S.q 47 (q := c47) rfl)) rfl (.cons rfl (PySem.W.mg_of X G (S.q 46 (q := c46) rfl)) rfl .nil))))) (Nat.le_of_ble_eq_true rfl) (Nat.le_of_ble_eq_true rfl)) (by decide) (.fld (.tup (.cons rfl (PySem.W.mg_of X G (S.q 45 (q := c45) rfl)) rfl (.cons rfl (PySem.W.mg_of X G (S.q 44 (q := c44) rfl)) rfl .nil)) (Nat.le_of_ble_eq_true rfl) (Nat.le_of_ble_eq_true rfl)) (by decide) (.fld (.one rfl (PySem.W.mg_of X G (S.q 43 (q := c43) rfl)) rfl) (by decide) (.fld (.one rfl (PySem.W.mg_of X G (S.q 42 (q := c42) rfl)) rfl) (by decide) (.non (.one rfl (PySem.W.mg_of X G (S.q 41 (q := c41) rfl)) rfl) .nil))))))))), (tbl_cons ⟨(He.ga K "InvalidEdit"), clsOf_eq (PySem.W.mg_of X G (S.q 57 (q := c57) rfl)), ⟨⟨(S.q 78 (q := c78) rfl), (S.q 79 (q := c79) rfl), (S.q 80 (q := c80) rfl), (S.q 81 (q := c81) rfl)⟩, (S.q 82 (q := c82) rfl), fun _ => (S.q 83 (q := c83) rfl)⟩, (.inr ⟨(S.q 84 (q := c84) rfl), (.inl ⟨(S.q 85 (q := c85) rfl), rfl⟩)⟩)⟩ (tbl_cons ⟨(He.ga K "ParseError"), clsOf_eq (PySem.W.mg_of X G (S.q 55 (q := c55) rfl)), ⟨⟨(S.q 70 (q := c70) rfl), (S.q 71 (q := c71) rfl), (S.q 72 (q := c72) rfl), (S.q 73 (q := c73) rfl)⟩, (S.q 74 (q := c74) rfl), fun _ => (S.q 75 (q := c75) rfl)⟩, (.inr ⟨(S.q 76 (q := c76) rfl), (.inl ⟨(S.q 77 (q := c77) rfl), rfl⟩)⟩)⟩ (tbl_cons ⟨(He.ga K "TooLong"), clsOf_eq (PySem.W.mg_of X G (S.q 54 (q := c54) rfl)), ⟨⟨(S.q 61 (q := c61) rfl), (S.q 62 (q := c62) rfl), (S.q 63 (q := c63) rfl), (S.q 64 (q := c64) rfl)⟩, (S.q 65 (q := c65) rfl), fun _ => (S.q 66 (q := c66) rfl)⟩, (.inr ⟨(S.q 67 (q := c67) rfl), (.inr ⟨(S.q 68 (q := c68) rfl), (.inl ⟨(S.q 69 (q := c69) rfl), rfl⟩)⟩)⟩)⟩ tbl_nil)))⟩, ⟨(He.ga K "Script"), (He.ma K (He.ga K "Script") "__len__"), _, (PySem.W.mg_of X G (S.q 20 (q := c20) rfl)), ⟨(S.q 27 (q := c27) rfl), (S.q 28 (q := c28) rfl), (S.q 29 (q := c29) rfl), (S.q 30 (q := c30) rfl)⟩, ⟨(S.q 87 (q := c87) rfl), (S.q 88 (q := c88) rfl), F4.kp⟩, F4, (F4.binds (ps := ["self"]) fun _ _ _ _ _ _ us hl => match us, hl with | [_], _ => rfl)⟩, ⟨(He.ga K "Script"), (PySem.W.mg_of X G (S.q 20 (q := c20) rfl)), ⟨(S.q 27 (q := c27) rfl), (S.q 28 (q := c28) rfl), (S.q 29 (q := c29) rfl), (S.q 30 (q := c30) rfl)⟩, (S.q 89 (q := c89) rfl)⟩, ⟨[.ref (He.ga K "ParseError")], (.cons (PySem.W.mg_of X G (S.q 55 (q := c55) rfl)) .nil), ⟨(allC_cons ⟨(He.ga K "ParseError"), clsOf_eq (PySem.W.mg_of X G (S.q 55 (q := c55) rfl)), (S.q 90 (q := c90) rfl)⟩ allC_nil)⟩⟩, ⟨(He.ga K "ParseError"), (He.ma K (He.ga K "ParseError") "__init__"), _, (PySem.W.mg_of X G (S.q 55 (q := c55) rfl)), ⟨oexGB_ok (S.q 91 (q := c91) rfl), (S.q 92 (q := c92) rfl), (S.q 72 (q := c72) rfl), (S.q 93 (q := c93) rfl), (S.q 94 (q := c94) rfl)⟩, (S.q 95 (q := c95) rfl), (S.q 96 (q := c96) rfl), F5, (F5.binds (ps := ["self", "at"]) fun _ _ _ _ _ _ us hl => match us, hl with | [_, _], _ => rfl), (S.q 75 (q := c75) rfl), (S.q 74 (q := c74) rfl)⟩, ⟨(He.ga K "Script"), (He.ma K (He.ga K "Script") "__init__"), _, (PySem.W.mg_of X G (S.q 20 (q := c20) rfl)), ⟨(S.q 97 (q := c97) rfl), (S.q 98 (q := c98) rfl), (S.q 99 (q := c99) rfl), (S.q 100 (q := c100) rfl)⟩, F6⟩, ⟨(He.ga K "InvalidEdit"), (He.ma K (He.ga K "InvalidEdit") "__init__"), _, (PySem.W.mg_of X G (S.q 57 (q := c57) rfl)), ⟨oexGB_ok (S.q 101 (q := c101) rfl), (S.q 102 (q := c102) rfl), (S.q 80 (q := c80) rfl), (S.q 103 (q := c103) rfl), (S.q 104 (q := c104) rfl)⟩, (S.q 105 (q := c105) rfl), (S.q 106 (q := c106) rfl), F7, (F7.binds (ps := ["self", "at"]) fun _ _ _ _ _ _ us hl => match us, hl with | [_, _], _ => rfl), (S.q 83 (q := c83) rfl), (S.q 82 (q := c82) rfl)⟩, ⟨(He.ga K "Script"), .type "type", .int 4, _, (PySem.W.mg_of X G (S.q 20 (q := c20) rfl)), ⟨(S.q 16 (q := c16) rfl), (S.q 17 (q := c17) rfl)⟩, ⟨hk9, ⟨_, rfl⟩⟩, fun _ _ => .int 4⟩, ⟨(He.ga K "TooLong"), (He.ma K (He.ga K "TooLong") "__init__"), _, (PySem.W.mg_of X G (S.q 54 (q := c54) rfl)), ⟨oexGB_ok (S.q 108 (q := c108) rfl), (S.q 109 (q := c109) rfl), (S.q 63 (q := c63) rfl), (S.q 110 (q := c110) rfl), (S.q 111 (q := c111) rfl)⟩, (S.q 112 (q := c112) rfl), (S.q 113 (q := c113) rfl), F8, (F8.binds (ps := ["self", "most"]) fun _ _ _ _ _ _ us hl => match us, hl with | [_, _], _ => rfl), (S.q 66 (q := c66) rfl), (S.q 65 (q := c65) rfl)⟩, ⟨(He.ga K "Script"), (He.ma K (He.ga K "Script") "__add__"), _, (PySem.W.mg_of X G (S.q 20 (q := c20) rfl)), (S.q 114 (q := c114) rfl), (S.q 115 (q := c115) rfl), (S.q 116 (q := c116) rfl), F9, (F9.binds (ps := ["self", "other"]) fun _ _ _ _ _ _ us hl => match us, hl with | [_, _], _ => rfl)⟩, ⟨_, _, F10, (PySem.W.mg_of X G (S.q 117 (q := c117) rfl)), F10.binds (ps := ["_law_script_here"]) fun _ _ _ _ _ _ us hl => match us, hl with | [_], _ => rfl⟩, ⟨_, _, F11, (PySem.W.mg_of X G (S.q 118 (q := c118) rfl)), F11.binds (ps := ["edit"]) fun _ _ _ _ _ _ us hl => match us, hl with | [_], _ => rfl⟩, ⟨_, _, F12, (PySem.W.mg_of X G (S.q 119 (q := c119) rfl)), F12.binds (ps := []) fun _ _ _ _ _ _ us hl => match us, hl with | [], _ => rfl⟩, ⟨_, _, F13, (PySem.W.mg_of X G (S.q 120 (q := c120) rfl)), F13.binds (ps := []) fun _ _ _ _ _ _ us hl => match us, hl with | [], _ => rfl⟩, ⟨_, _, F14, (PySem.W.mg_of X G (S.q 121 (q := c121) rfl)), F14.binds (ps := ["_law_edit_here"]) fun _ _ _ _ _ _ us hl => match us, hl with | [_], _ => rfl⟩, ⟨_, _, F15, (PySem.W.mg_of X G (S.q 122 (q := c122) rfl)), F15.binds (ps := ["thing"]) fun _ _ _ _ _ _ us hl => match us, hl with | [_], _ => rfl⟩, ⟨_, _, F16, (PySem.W.mg_of X G (S.q 123 (q := c123) rfl)), F16.binds (ps := ["thing"]) fun _ _ _ _ _ _ us hl => match us, hl with | [_], _ => rfl⟩, ⟨_, _, F17, (PySem.W.mg_of X G (S.q 124 (q := c124) rfl)), F17.binds (ps := ["thing"]) fun _ _ _ _ _ _ us hl => match us, hl with | [_], _ => rfl⟩, ⟨_, _, F18, (PySem.W.mg_of X G (S.q 125 (q := c125) rfl)), F18.binds (ps := ["text"]) fun _ _ _ _ _ _ us hl => match us, hl with | [_], _ => rfl⟩, ⟨_, _, F19, (PySem.W.mg_of X G (S.q 126 (q := c126) rfl)), F19.binds (ps := ["_law_box", "_law_many"]) fun _ _ _ _ _ _ us hl => match us, hl with | [_, _], _ => rfl⟩, ⟨_, _, F20, (PySem.W.mg_of X G (S.q 127 (q := c127) rfl)), F20.binds (ps := ["_law_box", "_law_things"]) fun _ _ _ _ _ _ us hl => match us, hl with | [_, _], _ => rfl⟩, ⟨_, _, F21, (PySem.W.mg_of X G (S.q 128 (q := c128) rfl)), F21.binds (ps := ["_law_box"]) fun _ _ _ _ _ _ us hl => match us, hl with | [_], _ => rfl⟩, ⟨_, _, F22, (PySem.W.mg_of X G (S.q 129 (q := c129) rfl)), F22.binds (ps := ["_law_box"]) fun _ _ _ _ _ _ us hl => match us, hl with | [_], _ => rfl⟩, ⟨_, _, F23, (PySem.W.mg_of X G (S.q 130 (q := c130) rfl)), F23.binds (ps := ["_law_box", "_law_most"]) fun _ _ _ _ _ _ us hl => match us, hl with | [_, _], _ => rfl⟩, ⟨_, _, F24, (PySem.W.mg_of X G (S.q 131 (q := c131) rfl)), F24.binds (ps := ["_law_found"]) fun _ _ _ _ _ _ us hl => match us, hl with | [_], _ => rfl⟩, ⟨_, _, F25, (PySem.W.mg_of X G (S.q 132 (q := c132) rfl)), F25.binds (ps := ["_law_found", "_law_due"]) fun _ _ _ _ _ _ us hl => match us, hl with | [_, _], _ => rfl⟩, ⟨_, _, F26, (PySem.W.mg_of X G (S.q 133 (q := c133) rfl)), F26.binds (ps := ["_law_edits_here"]) fun _ _ _ _ _ _ us hl => match us, hl with | [_], _ => rfl⟩, ⟨_, _, F27, (PySem.W.mg_of X G (S.q 134 (q := c134) rfl)), F27.binds (ps := ["_law_edits_here"]) fun _ _ _ _ _ _ us hl => match us, hl with | [_], _ => rfl⟩, ⟨_, _, F28, (PySem.W.mg_of X G (S.q 135 (q := c135) rfl)), F28.binds (ps := ["_law_script_here"]) fun _ _ _ _ _ _ us hl => match us, hl with | [_], _ => rfl⟩, lamT_mk (PySem.W.mg_of X G (S.q 135 (q := c135) rfl)) (S.q 135 (q := c135) rfl) lt0 (hTB _ (.head _)) (.head _) (all1 (fun _ => rfl))⟩
  obtain ⟨f, fd, F, hm, hk⟩ := ok_law (P := PySem.Challenge.pw_countedplace_k16_texts_of_scripts) (w := w) (base := base) (tb := [(lamP K "law", ("law" ++ ".<locals>." ++ "<lambda>"))]) T
  rw [(PySem.W.mg_of X G (S.q 135 (q := c135) rfl))] at hm
  cases hm
  have e2 := fun_one F F28
  rw [e2] at hk
  rw [hl]
  exact hk
end Z
open PySem PySem.W PySem.Calls PyProof.Rows
set_option maxHeartbeats 0 in
theorem PySem.Challenge.cw_countedplace_k16_texts_of_scripts_holds : PySem.Challenge.rw_countedplace_k16_texts_of_scripts.Holds := by
  w_on; o_law
  refine HandSHeadRun.head_any (q := view (OpenLaw.row PySem.Challenge.rw_countedplace_k16_texts_of_scripts).prog [63]) (H := Z.hk) (ob := Y.obY 6 Z.tell) (M := 20000) (loose := Z.loose) (d := HandSHeadRun.topDef (OpenLaw.row PySem.Challenge.rw_countedplace_k16_texts_of_scripts).prog 63) (kwd := []) Y.obY_eq (by kernel_rfl) (fun s => by kernel_rfl) Z.run (by kernel_rfl) (by kernel_rfl) (by kernel_rfl) (by rfl) (by first | assumption | decide +kernel) (by decide +kernel) ⟨rfl, rfl, rfl, rfl, rfl, by decide +kernel⟩ ?hw ?hc
  case hc => exact LamX.walk_ofTsE (l := PySem.Challenge.rw_countedplace_k16_texts_of_scripts) (n := 63) (k := 10) (x := "_law_script_here") (CX := fun w => L2N.CX PySem.Challenge.rw_countedplace_k16_texts_of_scripts.prog w) rfl (by decide) (by kernel_rfl) ⟨rfl, by decide, by decide⟩ (fun w mg fa h ⟨K, KX, S⟩ G hm => ⟨K, KX, Z.all_mk rfl KX G (Y.name_eq (by kernel_rfl) hm) S⟩) (fun _ _ _ _ _ h => Y.cx_false h)
  case hw => w_witness2
