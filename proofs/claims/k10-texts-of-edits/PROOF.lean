import PyProof.Rows.All
import Wide.All
import OpenK.AllK
import Wide.FinOn
import HandS.ForMost
import HandS.ForExc
import HandS.TupAny
import HandS.Deep
import HandS.StrMore
import HandS.IsInst
import HandS.Zip
import HandS.Style
import HandS.Star
import KE.GoesMore
import KE.KRevSl
import HandS.Property
import HandS.ClsMeth
import HandS.More
import HandS.OwnEq
import HandS.Nested
import KE.KSuper
import KE.RegKSuper
import HandS.NoneIn
import HandS.Codes
import KE.KOpsOwn
import KE.KTupSum
import HandS.Lambda
import HandS.EndTab
import KE.KExcHand
import HandS.ExcInit
import HandS.ExcField
import HandS.Head2
import HandS.HeadEnd
import HandS.HeadWalk
import HandS.HeadHook4
import HandS.TryOnly
import KE.LtSeq
import KE.KDflt
import HandS.FStr
import HandS.StrSplit
import PySem.Challenge.RW_countedplace_k10_texts_of_edits
set_option Elab.async false
set_option linter.all false
set_option maxRecDepth 100000
set_option maxHeartbeats 4000000
set_option autoImplicit false
/-! ### the head, run once in the kernel and seen by a Hook of one's own: what is looked at -/
namespace Y
open PySem PySem.Spec PyProof.Rows L2
def kvOf (e : DictEntry) : Option (Str × Str) := match e.key, e.val with
  | .str k _, .str v _ => some (k, v)
  | _, _ => none
abbrev Fr := PySem.W.Frag
/-- a function of the top: where it lies, its two names, its statement, the names of its closure -/
structure FnA where
  ad : Fr → Addr
  nam : Str
  qua : Str
  st : Stmt
  clo : List Str := []
abbrev FnO : Type := Option ((Str × Str) × (Arguments × FuncBody × Scope) × (Addr × Addr) × List Str)
def seeF (K : Fr) (a : Addr) : FnO := match K.lookup a with
  | some ⟨_, _, .func d, _⟩ => some ((d.name, d.qualname), (d.params, d.body, d.scope), (d.globals, d.builtins), d.closure.map Prod.fst)
  | _ => none
def FnA.due (x : FnA) : FnO := some ((x.nam, x.qua), (defArgs x.st, .stmts (defBody x.st), defScope x.st), (mainGlobals, builtinsNs), x.clo)
def FnA.ok (K : Fr) (x : FnA) : Bool := match K.lookup (x.ad K) with
  | some ⟨_, _, .func d, _⟩ => PySem.W.codeIn K d.code x.qua && (decide (d.defaults = .none) && PySem.W.keepIn K (.ref (x.ad K)))
  | _ => false
/-- two looks that must agree -/
structure Qy where
  α : Type
  dec : DecidableEq α
  l : Fr → α
  r : Fr → α
def Qy.ok (K : Fr) (q : Qy) : Bool := @decide _ (q.dec (q.l K) (q.r K))
theorem Qy.says {K : Fr} {q : Qy} (h : q.ok K = true) : q.l K = q.r K := @of_decide_eq_true _ (q.dec (q.l K) (q.r K)) h
abbrev qy {α : Type} [d : DecidableEq α] (l r : Fr → α) : Qy := ⟨α, d, l, r⟩
abbrev qb (l : Fr → Bool) : Qy := ⟨Bool, inferInstance, l, fun _ => true⟩
/-- what is told of a head -/
structure Tell where
  fns : List FnA
  tab : List He.Tab
  lam : List Str
  chk : List Qy
def lamOk (g : Addr → Option Obj) (K : Fr) (x : Str) : Bool := match PySem.W.tabIn K x with
  | some (c, P) => PySem.W.codeHdIn K c P && (match g P with
    | some o => He.emptyTab o
    | none => false)
  | none => false
abbrev AlY : Type := List FnO × List (Option (List (Option (Str × Int)))) × Bool
def Tell.see (T : Tell) (g : Addr → Option Obj) (K : Fr) : AlY :=
  (T.fns.map fun x => seeF K (x.ad K), T.tab.map fun t => He.dicW K (t.1 K), T.fns.all (FnA.ok K) && (T.chk.all (Qy.ok K) && T.lam.all (lamOk g K)))
def Tell.due (T : Tell) (w : World) : AlY := (T.fns.map FnA.due, T.tab.map fun t => some (He.keysIn w.params t.2), true)
/-- a part of the heap, laid out before it is looked at -/
def frc {α : Type} : Fr → (Fr → α) → α
  | [], k => k []
  | (a, ⟨c, d, t, s⟩) :: r, k => HandSHeadRun.frNat a fun a => frc r fun r => k ((a, ⟨c, d, t, s⟩) :: r)
theorem frc_eq {α : Type} : ∀ (K : Fr) (k : Fr → α), frc K k = k K
  | [], _ => rfl
  | (a, ⟨c, d, t, s⟩) :: r, k => by
    show HandSHeadRun.frNat a (fun a => frc r fun r => k ((a, ⟨c, d, t, s⟩) :: r)) = _
    rw [HandSHeadRun.frNat_eq, frc_eq r]
/-- what an object leads to, as far as a head is asked of it -/
def nextO (o : Obj) : List Addr := match o.data with
  | .dict es _ => es.toList.flatMap fun e => He.refV e.val
  | .func d => He.refV d.code ++ (He.refV d.defaults ++ (He.refV d.kwdefaults ++ d.closure.map Prod.snd))
  | .cls cd => [cd.ns]
  | .fields vs => (match o.cls with
    | .type "code" => []
    | _ => vs.toList.flatMap He.refV)
  | _ => []
def nextA (g : Addr → Option Obj) (a : Addr) : List Addr := match g a with
  | some o => nextO o
  | none => []
def reach (g : Addr → Option Obj) : Nat → List Addr → List Addr
  | 0, _ => []
  | n + 1, as => as.flatMap (nextA g) ++ reach g n (as.flatMap (nextA g))
def parts (g : Addr → Option Obj) (n : Nat) : Fr := He.frT g (mainGlobals :: cStatics :: reach g n [mainGlobals])
structure Says (T : Tell) (w : World) (h : Heap) (K : Fr) : Prop where
  fn : T.fns.map (fun x => seeF K (x.ad K)) = T.fns.map FnA.due
  fo : ∀ x ∈ T.fns, FnA.ok K x = true
  tb : T.tab.map (fun t => He.dicW K (t.1 K)) = T.tab.map fun t => some (He.keysIn w.params t.2)
  ck : ∀ q ∈ T.chk, Qy.ok K q = true
  lm : ∀ x ∈ T.lam, ∃ c P, PySem.W.tabIn K x = some (c, P) ∧ PySem.W.codeHdIn K c P = true ∧ K.lookup P = none ∧ h.get? P = some { cls := .none, data := .fields #[] }
def hookY (n : Nat) (T : Tell) : PySem.W.Hook where
  α := AlY
  obs := fun s => T.see s.heap.get? (parts s.heap.get? n)
  val := fun w => T.due w
  says := fun w h => ∃ K : Fr, K.In h ∧ Says T w h K
  of := fun w s e => by
    refine ⟨parts s.heap.get? n, He.frT_in, ?_⟩
    have e1 := congrArg (fun z : AlY => z.1) e
    have e2 := congrArg (fun z : AlY => z.2.1) e
    have e3 := congrArg (fun z : AlY => z.2.2) e
    have e3 : (T.fns.all (FnA.ok _) && (T.chk.all (Qy.ok _) && T.lam.all (lamOk s.heap.get? (parts s.heap.get? n)))) = true := e3
    obtain ⟨e4, e5⟩ := He.ba e3
    obtain ⟨e6, e7⟩ := He.ba e5
    refine ⟨e1, List.all_eq_true.mp e4, e2, List.all_eq_true.mp e6, fun x hx => ?_⟩
    have h7 := List.all_eq_true.mp e7 x hx
    unfold lamOk at h7
    cases q : PySem.W.tabIn (parts s.heap.get? n) x with
    | none => rw [q] at h7; cases h7
    | some cp =>
      obtain ⟨c, P⟩ := cp
      rw [q] at h7
      obtain ⟨h8, h9⟩ := He.ba h7
      cases q2 : s.heap.get? P with
      | none => rw [q2] at h9; cases h9
      | some o =>
        rw [q2] at h9
        exact ⟨c, P, rfl, h8, He.frT_none q2 h9, by rw [q2, He.emptyTab_eq h9]⟩
  keeps := fun w h h' ⟨K, hK, c⟩ k => ⟨K, PySem.W.Frag.In.keeps hK k, c.fn, c.fo, c.tb, c.ck, fun x hx => by
    obtain ⟨a, P, h1, h2, h3, h4⟩ := c.lm x hx
    exact ⟨a, P, h1, h2, h3, k _ _ h4⟩⟩
/-- the same, off the tree -/
def obY (n : Nat) (T : Tell) (s : PySem.W.SharedT) : AlY := frc (parts (HandSHeadRun.getT s) n) (T.see (HandSHeadRun.getT s))
theorem obY_eq {n : Nat} {T : Tell} (s : PySem.W.SharedT) : obY n T s = (hookY n T).obs s.abs := by
  have e : HandSHeadRun.getT s = s.abs.heap.get? := funext (HandSHeadRun.getT_eq s)
  unfold obY
  rw [frc_eq, e] <;> rfl
def cellV (K : Fr) (cc : Addr) : Addr := match K.lookup cc with
  | some ⟨_, _, .cell (some (.ref d)), _⟩ => d
  | _ => 0
def supA (K : Fr) (f : Addr) : Addr := match K.lookup f with
  | some ⟨_, _, .func d, _⟩ => (match d.closure with
    | [(_, cc)] => cellV K cc
    | _ => 0)
  | _ => 0
def supOk (P : Program) (K : Fr) (f : Addr) : Bool := match K.lookup f with
  | some ⟨_, _, .func d, _⟩ => (match d.closure with
    | [(_, cc)] => (match K.lookup cc with
      | some ⟨_, _, .cell (some (.ref _)), _⟩ => (match d.code with
        | .ref ca => (match K.lookup ca with
          | some ⟨_, _, .fields vs, _⟩ => (match (vs[2]? : Option Value) with
            | some (.str fi _) => (P.main.file : Str) == fi
            | _ => false)
          | _ => false)
        | _ => false)
      | _ => false)
    | _ => false)
  | _ => false
def propF (K : Fr) (p : Addr) (t : String) : Addr := match PySem.W.recIn K p t with
  | some (.ref f :: _) => f
  | _ => 0
def propR (K : Fr) (p : Addr) (t : String) : List Value := match PySem.W.recIn K p t with
  | some (_ :: r) => r
  | _ => []
def staA (K : Fr) (C : Addr) (m : Str) : Addr := match PySem.W.findIn K (.ref C) m with
  | some (some (.ref p)) => p
  | _ => 0
def isGet (K : Fr) (C : Addr) (m : Str) (p : Addr) (b : String) : Bool := match PySem.W.findCls K (.ref C) (.type "type") m with
  | some (.get (.builtin z) (.ref q) .none (.ref D)) => decide (z = b) && (decide (q = p) && decide (D = C))
  | _ => false
def isVal (K : Fr) (C : Addr) (m : Str) (i : Int) : Bool := match PySem.W.findCls K (.ref C) (.type "type") m with
  | some (.val (.int j _)) => decide (j = i)
  | _ => false
def kvsOk (K : Fr) (x : Str) (t : List (Str × Str)) : Bool := match K.lookup (He.ga K x) with
  | some ⟨_, _, .dict es _, _⟩ => decide (es.toList.map kvOf = t.map some)
  | _ => false
def oexB (K : Fr) (C : Addr) : Bool := match K.lookup C with
  | some ⟨.type t, _, .cls cd, sl⟩ => decide (t = "type") && (cd.hasDict && (!cd.hasDel && ((match cd.mro with
      | .ref C' :: bm => decide (C' = C) && PySem.HandSPX.refsVE bm
      | _ => false) && (match sl.toList with
      | [_, _, _, _, some (.builtin n), _] => decide (n = "ValueError.__new__")
      | _ => false))))
  | _ => false
def lamC (K : Fr) (x : Str) : Addr := match PySem.W.tabIn K x with
  | some (c, _) => c
  | none => 0
def lamP (K : Fr) (x : Str) : Addr := match PySem.W.tabIn K x with
  | some (_, p) => p
  | none => 0
end Y
namespace Z
open PySem PySem.Spec PyProof.Rows L2 Y
def topS (i : Nat) : Stmt := PySem.Challenge.pw_countedplace_k10_texts_of_edits.main.body.getD i (.Pass ⟨0, 0, 0, 0⟩)
abbrev s_L_open : Stmt := topS 32
abbrev s_ParseError___init__ : Stmt := inClass (topS 19) 0
abbrev s_L_refused : Stmt := topS 37
abbrev s_format_edit : Stmt := topS 29
abbrev s_places : Stmt := topS 27
abbrev s_shelf : Stmt := topS 28
abbrev s_L_spelled : Stmt := topS 42
abbrev s_L_draw : Stmt := topS 33
abbrev s_L_any : Stmt := topS 34
abbrev s_L_place : Stmt := topS 38
abbrev s_L_edit : Stmt := topS 39
abbrev s_L_whole : Stmt := topS 35
abbrev s_L_same : Stmt := topS 36
abbrev s_L_places : Stmt := topS 40
abbrev s_L_shelf : Stmt := topS 41
abbrev s_L_spoilt : Stmt := topS 43
abbrev s_parse_edit : Stmt := topS 30
abbrev s_law : Stmt := topS 44
def refTbl : List (Str × Str) := [("ParseError", "at")]
abbrev c0 : Qy := qy (fun K => PySem.W.nsIn K mainGlobals "all") (fun K => some none)
abbrev c1 : Qy := qy (fun K => PySem.W.nsIn K mainGlobals "bool") (fun K => some none)
abbrev c2 : Qy := qy (fun K => PySem.W.nsIn K mainGlobals "int") (fun K => some none)
abbrev c3 : Qy := qy (fun K => PySem.W.nsIn K mainGlobals "isinstance") (fun K => some none)
abbrev c4 : Qy := qy (fun K => PySem.W.nsIn K mainGlobals "len") (fun K => some none)
abbrev c5 : Qy := qy (fun K => PySem.W.nsIn K mainGlobals "list") (fun K => some none)
abbrev c6 : Qy := qy (fun K => PySem.W.nsIn K mainGlobals "range") (fun K => some none)
abbrev c7 : Qy := qy (fun K => PySem.W.nsIn K mainGlobals "str") (fun K => some none)
abbrev c8 : Qy := qy (fun K => PySem.W.nsIn K mainGlobals "tuple") (fun K => some none)
abbrev c9 : Qy := qy (fun K => PySem.W.nsIn K mainGlobals "zip") (fun K => some none)
abbrev c10 : Qy := qy (fun K => PySem.W.nsIn K mainGlobals "ENDS") (fun K => some (some (.ref (He.ga K "ENDS"))))
abbrev c11 : Qy := qb (fun K => He.tupB K "ENDS" [.str "front", .str "back"])
abbrev c12 : Qy := qy (fun K => PySem.W.nsIn K mainGlobals "NUMBERS") (fun K => some (some (.ref (He.ga K "NUMBERS"))))
abbrev c13 : Qy := qb (fun K => He.tupB K "NUMBERS" [.int 1, .int 2])
abbrev c14 : Qy := qb (fun K => (He.Fa.str "SYMBOLS" "ab").ok K)
abbrev c15 : Qy := qy (fun K => PySem.W.nsIn K mainGlobals "NothingLeft") (fun K => some (some (.ref (He.ga K "NothingLeft"))))
abbrev c16 : Qy := qy (fun K => PySem.W.nsIn K mainGlobals "InvalidCommand") (fun K => some (some (.ref (He.ga K "InvalidCommand"))))
abbrev c17 : Qy := qy (fun K => PySem.W.nsIn K mainGlobals "Carried") (fun K => some (some (.ref (He.ga K "Carried"))))
abbrev c18 : Qy := qy (fun K => PySem.W.nsIn K mainGlobals "UnknownVersion") (fun K => some (some (.ref (He.ga K "UnknownVersion"))))
abbrev c19 : Qy := qy (fun K => PySem.W.nsIn K mainGlobals "Untraced") (fun K => some (some (.ref (He.ga K "Untraced"))))
abbrev c20 : Qy := qy (fun K => PySem.W.nsIn K mainGlobals "UnknownName") (fun K => some (some (.ref (He.ga K "UnknownName"))))
abbrev c21 : Qy := qy (fun K => PySem.W.nsIn K mainGlobals "OrderMatters") (fun K => some (some (.ref (He.ga K "OrderMatters"))))
abbrev c22 : Qy := qy (fun K => PySem.W.nsIn K mainGlobals "NoCarry") (fun K => some (some (.ref (He.ga K "NoCarry"))))
abbrev c23 : Qy := qy (fun K => PySem.W.nsIn K mainGlobals "DuplicateName") (fun K => some (some (.ref (He.ga K "DuplicateName"))))
abbrev c24 : Qy := qy (fun K => PySem.W.nsIn K mainGlobals "InvalidName") (fun K => some (some (.ref (He.ga K "InvalidName"))))
abbrev c25 : Qy := qy (fun K => PySem.W.nsIn K mainGlobals "Different") (fun K => some (some (.ref (He.ga K "Different"))))
abbrev c26 : Qy := qy (fun K => PySem.W.nsIn K mainGlobals "Conflicting") (fun K => some (some (.ref (He.ga K "Conflicting"))))
abbrev c27 : Qy := qy (fun K => PySem.W.nsIn K mainGlobals "CapacityExceeded") (fun K => some (some (.ref (He.ga K "CapacityExceeded"))))
abbrev c28 : Qy := qy (fun K => PySem.W.nsIn K mainGlobals "TooLong") (fun K => some (some (.ref (He.ga K "TooLong"))))
abbrev c29 : Qy := qy (fun K => PySem.W.nsIn K mainGlobals "ParseError") (fun K => some (some (.ref (He.ga K "ParseError"))))
abbrev c30 : Qy := qy (fun K => PySem.W.nsIn K mainGlobals "Conflict") (fun K => some (some (.ref (He.ga K "Conflict"))))
abbrev c31 : Qy := qy (fun K => PySem.W.nsIn K mainGlobals "InvalidEdit") (fun K => some (some (.ref (He.ga K "InvalidEdit"))))
abbrev c32 : Qy := qy (fun K => PySem.W.nsIn K mainGlobals "InvalidLimit") (fun K => some (some (.ref (He.ga K "InvalidLimit"))))
abbrev c33 : Qy := qy (fun K => PySem.W.nsIn K mainGlobals "Mismatch") (fun K => some (some (.ref (He.ga K "Mismatch"))))
abbrev c34 : Qy := qy (fun K => PySem.W.nsIn K mainGlobals "InvalidRow") (fun K => some (some (.ref (He.ga K "InvalidRow"))))
abbrev c35 : Qy := qy (fun K => PySem.W.findIn K (.ref (He.ga K "ParseError")) "__getattribute__") (fun K => some (some (.builtin "BaseException.__getattribute__")))
abbrev c36 : Qy := qy (fun K => PySem.W.findIn K (.ref (He.ga K "ParseError")) "__getattr__") (fun K => some none)
abbrev c37 : Qy := qy (fun K => PySem.W.subIn K (.ref (He.ga K "ParseError")) (.type "BaseException")) (fun K => some true)
abbrev c38 : Qy := qb (fun K => PySem.W.hasDictIn K (He.ga K "ParseError"))
abbrev c39 : Qy := qy (fun K => PySem.W.findIn K (.ref (He.ga K "ParseError")) "tag") (fun K => some none)
abbrev c40 : Qy := qy (fun K => PySem.W.findIn K (.ref (He.ga K "ParseError")) "at") (fun K => some none)
abbrev c41 : Qy := qy (fun K => PySem.W.exmAny K (.ref (He.ga K "ParseError")) [.ref (He.ga K "InvalidRow"), .ref (He.ga K "Mismatch"), .ref (He.ga K "InvalidLimit")]) (fun K => some false)
abbrev c42 : Qy := qy (fun K => PySem.W.exmAny K (.ref (He.ga K "ParseError")) [.ref (He.ga K "InvalidEdit"), .ref (He.ga K "Conflict"), .ref (He.ga K "ParseError")]) (fun K => some true)
abbrev c43 : Qy := qy (fun K => PySem.W.nsIn K mainGlobals "_law_refused") (fun K => some (some (.ref (He.ga K "_law_refused"))))
abbrev c44 : Qy := qb (fun K => oexB K (He.ga K "ParseError"))
abbrev c45 : Qy := qy (fun K => PySem.W.findIn K (.ref (He.ga K "ParseError")) "__setattr__") (fun K => some (some (.builtin "object.__setattr__")))
abbrev c46 : Qy := qy (fun K => PySem.W.typeIn K (.ref (He.ga K "ParseError"))) (fun K => some (.type "type"))
abbrev c47 : Qy := qb (fun K => PySem.W.keepIn K (.ref (He.ga K "ParseError")))
abbrev c48 : Qy := qy (fun K => PySem.W.findIn K (.ref (He.ga K "ParseError")) "__init__") (fun K => some (some (.ref (He.ma K (He.ga K "ParseError") "__init__"))))
abbrev c49 : Qy := qy (fun K => PySem.W.typeIn K (.ref (He.ma K (He.ga K "ParseError") "__init__"))) (fun K => some (.type "function"))
abbrev c50 : Qy := qy (fun K => PySem.W.nsIn K mainGlobals "_law_open") (fun K => some (some (.ref (He.ga K "_law_open"))))
abbrev c51 : Qy := qy (fun K => PySem.W.nsIn K mainGlobals "format_edit") (fun K => some (some (.ref (He.ga K "format_edit"))))
abbrev c52 : Qy := qy (fun K => PySem.W.nsIn K mainGlobals "places") (fun K => some (some (.ref (He.ga K "places"))))
abbrev c53 : Qy := qy (fun K => PySem.W.nsIn K mainGlobals "shelf") (fun K => some (some (.ref (He.ga K "shelf"))))
abbrev c54 : Qy := qy (fun K => PySem.W.nsIn K mainGlobals "_law_spelled") (fun K => some (some (.ref (He.ga K "_law_spelled"))))
abbrev c55 : Qy := qy (fun K => PySem.W.nsIn K mainGlobals "_law_draw") (fun K => some (some (.ref (He.ga K "_law_draw"))))
abbrev c56 : Qy := qy (fun K => PySem.W.nsIn K mainGlobals "_law_any") (fun K => some (some (.ref (He.ga K "_law_any"))))
abbrev c57 : Qy := qy (fun K => PySem.W.nsIn K mainGlobals "_law_place") (fun K => some (some (.ref (He.ga K "_law_place"))))
abbrev c58 : Qy := qy (fun K => PySem.W.nsIn K mainGlobals "_law_edit") (fun K => some (some (.ref (He.ga K "_law_edit"))))
abbrev c59 : Qy := qy (fun K => PySem.W.nsIn K mainGlobals "_law_whole") (fun K => some (some (.ref (He.ga K "_law_whole"))))
abbrev c60 : Qy := qy (fun K => PySem.W.nsIn K mainGlobals "_law_same") (fun K => some (some (.ref (He.ga K "_law_same"))))
abbrev c61 : Qy := qy (fun K => PySem.W.nsIn K mainGlobals "_law_places") (fun K => some (some (.ref (He.ga K "_law_places"))))
abbrev c62 : Qy := qy (fun K => PySem.W.nsIn K mainGlobals "_law_shelf") (fun K => some (some (.ref (He.ga K "_law_shelf"))))
abbrev c63 : Qy := qy (fun K => PySem.W.nsIn K mainGlobals "_law_spoilt") (fun K => some (some (.ref (He.ga K "_law_spoilt"))))
abbrev c64 : Qy := qy (fun K => PySem.W.nsIn K mainGlobals "parse_edit") (fun K => some (some (.ref (He.ga K "parse_edit"))))
abbrev c65 : Qy := qy (fun K => PySem.W.nsIn K mainGlobals "law") (fun K => some (some (.ref (He.ga K "law"))))
abbrev a0 : FnA := ⟨fun K => (He.ga K "_law_refused"), "_law_refused", "_law_refused", s_L_refused, []⟩
abbrev a1 : FnA := ⟨fun K => (He.ma K (He.ga K "ParseError") "__init__"), "__init__", "ParseError.__init__", s_ParseError___init__, []⟩
abbrev a2 : FnA := ⟨fun K => (He.ga K "_law_open"), "_law_open", "_law_open", s_L_open, []⟩
abbrev a3 : FnA := ⟨fun K => (He.ga K "format_edit"), "format_edit", "format_edit", s_format_edit, []⟩
abbrev a4 : FnA := ⟨fun K => (He.ga K "places"), "places", "places", s_places, []⟩
abbrev a5 : FnA := ⟨fun K => (He.ga K "shelf"), "shelf", "shelf", s_shelf, []⟩
abbrev a6 : FnA := ⟨fun K => (He.ga K "_law_spelled"), "_law_spelled", "_law_spelled", s_L_spelled, []⟩
abbrev a7 : FnA := ⟨fun K => (He.ga K "_law_draw"), "_law_draw", "_law_draw", s_L_draw, []⟩
abbrev a8 : FnA := ⟨fun K => (He.ga K "_law_any"), "_law_any", "_law_any", s_L_any, []⟩
abbrev a9 : FnA := ⟨fun K => (He.ga K "_law_place"), "_law_place", "_law_place", s_L_place, []⟩
abbrev a10 : FnA := ⟨fun K => (He.ga K "_law_edit"), "_law_edit", "_law_edit", s_L_edit, []⟩
abbrev a11 : FnA := ⟨fun K => (He.ga K "_law_whole"), "_law_whole", "_law_whole", s_L_whole, []⟩
abbrev a12 : FnA := ⟨fun K => (He.ga K "_law_same"), "_law_same", "_law_same", s_L_same, []⟩
abbrev a13 : FnA := ⟨fun K => (He.ga K "_law_places"), "_law_places", "_law_places", s_L_places, []⟩
abbrev a14 : FnA := ⟨fun K => (He.ga K "_law_shelf"), "_law_shelf", "_law_shelf", s_L_shelf, []⟩
abbrev a15 : FnA := ⟨fun K => (He.ga K "_law_spoilt"), "_law_spoilt", "_law_spoilt", s_L_spoilt, []⟩
abbrev a16 : FnA := ⟨fun K => (He.ga K "parse_edit"), "parse_edit", "parse_edit", s_parse_edit, []⟩
abbrev a17 : FnA := ⟨fun K => (He.ga K "law"), "law", "law", s_law, []⟩
def tell : Tell := ⟨[a0, a1, a2, a3, a4, a5, a6, a7, a8, a9, a10, a11, a12, a13, a14, a15, a16, a17], [], ["law"], [c0, c1, c2, c3, c4, c5, c6, c7, c8, c9, c10, c11, c12, c13, c14, c15, c16, c17, c18, c19, c20, c21, c22, c23, c24, c25, c26, c27, c28, c29, c30, c31, c32, c33, c34, c35, c36, c37, c38, c39, c40, c41, c42, c43, c44, c45, c46, c47, c48, c49, c50, c51, c52, c53, c54, c55, c56, c57, c58, c59, c60, c61, c62, c63, c64, c65]⟩
def loose : List Str := (["PlaceError", "Missing", "InvalidRow", "InvalidEdit", "TooLong", "Mismatch", "Conflict", "Conflicting", "Different", "Carried", "InvalidName", "DuplicateName", "CapacityExceeded", "InvalidLimit", "Untraced", "NoCarry", "OrderMatters", "InvalidCommand", "ParseError", "UnknownName", "UnknownVersion", "NothingLeft", "SYMBOLS", "ENDS", "NUMBERS", "places", "shelf", "format_edit", "parse_edit", "_law_open"] : List Str) ++ (["_law_draw", "_law_any", "_law_whole", "_law_same", "_law_refused", "_law_place", "_law_edit", "_law_places", "_law_shelf", "_law_spelled", "_law_spoilt"] : List Str)
abbrev hk : PySem.W.Hook := hookY 6 tell
abbrev runP (w : World) : Prop := HandSHeadRun.RunEq (PySem.W.OpenLaw.row PySem.Challenge.rw_countedplace_k10_texts_of_edits) (PySem.W.view (PySem.W.OpenLaw.row PySem.Challenge.rw_countedplace_k10_texts_of_edits).prog [44]) hk (obY 6 tell) 20000 loose w
theorem run0 (w : World) : runP (w.withFollow "special-get-raises" false) := fun os => by kernel_rfl
theorem run1 (w : World) : runP (w.withFollow "special-get-raises" true) := fun os => by kernel_rfl
theorem run : ∀ w : World, runP w := PySem.W.byRow2 "special-get-raises" run0 run1
end Z
namespace Y
open PySem PySem.Spec PyProof.Rows L2

/-! ### data, and how a value stands for it -/
inductive D where
  | non | bl (b : Bool) | int (i : Int) | str (s : Str) | lst (ds : List D) | tup (ds : List D) | box | obj (c : Str) (fs : List (Str × D)) | dct (kvs : List (Key × D)) | cel (i : Nat)
  deriving Inhabited
/-- the classes by name, the tables of code objects -/
structure CT where
  cl : Str → Option Addr
  tb : List (Addr × Str)
instance : CoeFun CT (fun _ => Str → Option Addr) := ⟨CT.cl⟩
/-- what is frozen, and where the cells lie -/
structure FH where
  fz : Hp
  ad : Nat → Option Addr
instance : CoeFun FH (fun _ => Addr → Option HO) := ⟨FH.fz⟩
instance : Coe FH Hp := ⟨FH.fz⟩
abbrev FH.upd (F : FH) (p : Addr) (o : HO) : FH := ⟨L2.upd F.fz p o, F.ad⟩
abbrev FH.addC (F : FH) (i : Nat) (p : Addr) : FH := ⟨F.fz, fun j => if j = i then some p else F.ad j⟩
/-- neither frozen nor a cell -/
def FH.free (F : FH) (p : Addr) : Prop := F.fz p = none ∧ ∀ i, F.ad i ≠ some p
theorem FH.free.upd {F : FH} {p q : Addr} {o : HO} (h : F.free p) (n : p ≠ q) : (F.upd q o).free p := ⟨by show L2.upd F.fz q o p = none; rw [upd_ne n]; exact h.1, h.2⟩
structure FSame (F F' : FH) : Prop where
  fz : Same F.fz F'.fz
  ad : ∀ i a, F.ad i = some a → F'.ad i = some a
theorem FSame.refl (F : FH) : FSame F F := ⟨Same.refl _, fun _ _ h => h⟩
theorem FSame.trans {F F' F'' : FH} (a : FSame F F') (b : FSame F' F'') : FSame F F'' := ⟨a.fz.trans b.fz, fun i x h => b.ad i x (a.ad i x h)⟩
theorem FSame.upd {F : FH} {p : Addr} {o : HO} (n : F.fz p = none) : FSame F (F.upd p o) := ⟨fun a u h => by show L2.upd F.fz p o a = some u; rw [upd_ne (ne_of_none h n)]; exact h, fun _ _ h => h⟩
/-- the box; the object that an __init__ makes, its own dict; the cells of the frame that makes lambdas -/
abbrev BQ : Type := Addr × Addr × Addr × List (Str × Addr)
structure G where
  K : PySem.W.Frag
  cls : CT
  bq : BQ
/-- the box that is drawn from -/
abbrev G.bx (g : G) : Addr := g.bq.1
/-- the object that an __init__ makes, and its own dict -/
abbrev G.me (g : G) : Addr := g.bq.2.1
abbrev G.md (g : G) : Addr := g.bq.2.2.1
abbrev G.cl (g : G) : List (Str × Addr) := g.bq.2.2.2
mutual
inductive DR (g : G) (F : FH) : V → D → Prop
  | non : DR g F .non .non
  | bl (b : Bool) : DR g F (.bl b) (.bl b)
  | int (i : Int) : DR g F (.int i) (.int i)
  | str (s : Str) : DR g F (.str s) (.str s)
  | lst {a : Addr} {xs : List V} {ds : List D} : F a = some (.lst xs) → DRs g F xs ds → DR g F (.ref a) (.lst ds)
  | tup {a : Addr} {xs : List V} {ds : List D} : SqT g.K F a xs → DRs g F xs ds → DR g F (.ref a) (.tup ds)
  | box : DR g F (.ref g.bx) .box
  | obj {a C dx : Addr} {c : Str} {fs : List (Str × V)} {ds : List (Str × D)} : F a = some (.ins C dx fs) → F dx = some (.own a) → g.cls c = some C → DRf g F fs ds → DR g F (.ref a) (.obj c ds)
  | cel {i : Nat} {a : Addr} : F.ad i = some a → DR g F (.ref a) (.cel i)
  | dct {a : Addr} {xs : List (Key × V)} {ds : List (Key × D)} : F a = some (.dK xs) → DRk g F xs ds → DR g F (.ref a) (.dct ds)
inductive DRs (g : G) (F : FH) : List V → List D → Prop
  | nil : DRs g F [] []
  | cons {v : V} {vs : List V} {d : D} {ds : List D} : DR g F v d → DRs g F vs ds → DRs g F (v :: vs) (d :: ds)
inductive DRf (g : G) (F : FH) : List (Str × V) → List (Str × D) → Prop
  | nil : DRf g F [] []
  | cons {n : Str} {v : V} {vs : List (Str × V)} {d : D} {ds : List (Str × D)} : DR g F v d → DRf g F vs ds → DRf g F ((n, v) :: vs) ((n, d) :: ds)
inductive DRk (g : G) (F : FH) : List (Key × V) → List (Key × D) → Prop
  | nil : DRk g F [] []
  | cons {n : Key} {v : V} {vs : List (Key × V)} {d : D} {ds : List (Key × D)} : DR g F v d → DRk g F vs ds → DRk g F ((n, v) :: vs) ((n, d) :: ds)
end
theorem same_L {K : PySem.W.Frag} {H H' : Hp} {a : Addr} {xs : List V} (e : Same H H') (h : SqL K H a xs) : SqL K H' a xs := e.seq h
theorem same_T {K : PySem.W.Frag} {H H' : Hp} {a : Addr} {xs : List V} (e : Same H H') (h : SqT K H a xs) : SqT K H' a xs := by
  rcases h with (h | ⟨o, h⟩) | h
  · exact .inl (.inl (e _ _ h))
  · exact .inl (.inr ⟨o, e _ _ h⟩)
  · exact .inr h
mutual
theorem DR.mono {g : G} {F F' : FH} (e : FSame F F') : ∀ {v : V} {d : D}, DR g F v d → DR g F' v d
  | _, _, .non => .non
  | _, _, .bl b => .bl b
  | _, _, .int i => .int i
  | _, _, .str s => .str s
  | _, _, .lst h r => .lst (e.fz _ _ h) (DRs.mono e r)
  | _, _, .tup h r => .tup (same_T e.fz h) (DRs.mono e r)
  | _, _, .box => .box
  | _, _, .cel h => .cel (e.ad _ _ h)
  | _, _, .obj h h2 h3 r => .obj (e.fz _ _ h) (e.fz _ _ h2) h3 (DRf.mono e r)
  | _, _, .dct h r => .dct (e.fz _ _ h) (DRk.mono e r)
theorem DRs.mono {g : G} {F F' : FH} (e : FSame F F') : ∀ {v : List V} {d : List D}, DRs g F v d → DRs g F' v d
  | _, _, .nil => .nil
  | _, _, .cons h r => .cons (DR.mono e h) (DRs.mono e r)
theorem DRf.mono {g : G} {F F' : FH} (e : FSame F F') : ∀ {v : List (Str × V)} {d : List (Str × D)}, DRf g F v d → DRf g F' v d
  | _, _, .nil => .nil
  | _, _, .cons h r => .cons (DR.mono e h) (DRf.mono e r)
theorem DRk.mono {g : G} {F F' : FH} (e : FSame F F') : ∀ {v : List (Key × V)} {d : List (Key × D)}, DRk g F v d → DRk g F' v d
  | _, _, .nil => .nil
  | _, _, .cons h r => .cons (DR.mono e h) (DRk.mono e r)
end
section
variable {g : G} {F F' : FH} {H H' : Hp}
theorem DRs.length : ∀ {v : List V} {d : List D}, DRs g F v d → v.length = d.length
  | _, _, .nil => rfl
  | _, _, .cons _ r => congrArg (· + 1) r.length
theorem DRs.get : ∀ {vs : List V} {ds : List D} {i : Nat} {d : D}, DRs g F vs ds → ds[i]? = some d → ∃ v, vs[i]? = some v ∧ DR g F v d
  | _, _, _, _, .nil, e => by simp at e
  | _, _, 0, _, .cons r _, e => by simp at e; subst e; exact ⟨_, rfl, r⟩
  | _, _, i + 1, x, .cons _ t, e => by
    obtain ⟨u, h1, h2⟩ := DRs.get (i := i) (d := x) t (by simpa using e)
    exact ⟨u, by simpa using h1, h2⟩
theorem DRs.getV : ∀ {vs : List V} {ds : List D} {i : Nat} {v : V}, DRs g F vs ds → vs[i]? = some v → ∃ d, ds[i]? = some d ∧ DR g F v d
  | _, _, _, _, .nil, e => by simp at e
  | _, _, 0, _, .cons r _, e => by simp at e; subst e; exact ⟨_, rfl, r⟩
  | _, _, i + 1, x, .cons _ t, e => by
    obtain ⟨u, h1, h2⟩ := DRs.getV (i := i) (v := x) t (by simpa using e)
    exact ⟨u, by simpa using h1, h2⟩
theorem DRs.append : ∀ {v v' : List V} {d d' : List D}, DRs g F v d → DRs g F v' d' → DRs g F (v ++ v') (d ++ d')
  | _, _, _, _, .nil, s => s
  | _, _, _, _, .cons r t, s => .cons r (DRs.append t s)
theorem DRs.take : ∀ {v : List V} {d : List D} (n : Nat), DRs g F v d → DRs g F (v.take n) (d.take n)
  | _, _, 0, _ => .nil
  | _, _, _ + 1, .nil => .nil
  | _, _, n + 1, .cons r t => .cons r (DRs.take n t)
theorem DRs.drop : ∀ {v : List V} {d : List D} (n : Nat), DRs g F v d → DRs g F (v.drop n) (d.drop n)
  | _, _, 0, r => r
  | _, _, _ + 1, .nil => .nil
  | _, _, n + 1, .cons _ t => DRs.drop n t
theorem DRs.set {x : V} {u : D} (r : DR g F x u) : ∀ {xs : List V} {us : List D} (i : Nat), DRs g F xs us → DRs g F (xs.set i x) (us.set i u)
  | _, _, _, .nil => .nil
  | _, _, 0, .cons _ t => .cons r t
  | _, _, i + 1, .cons q t => .cons q (DRs.set r i t)
theorem DRf.lookup {f : Str} : ∀ {vs : List (Str × V)} {ds : List (Str × D)} {d : D}, DRf g F vs ds → ds.lookup f = some d → ∃ v, vs.lookup f = some v ∧ DR g F v d
  | _, _, _, .nil, e => by simp at e
  | _, _, d, .cons (n := n) r t, e => by
    rw [List.lookup_cons] at e ⊢
    cases q : f == n with
    | true => rw [q] at e; simp only at e; cases e; exact ⟨_, rfl, r⟩
    | false => rw [q] at e; simp only at e; exact DRf.lookup t e
theorem DRf.lookup_none {f : Str} : ∀ {vs : List (Str × V)} {ds : List (Str × D)}, DRf g F vs ds → ds.lookup f = none → vs.lookup f = none
  | _, _, .nil, _ => rfl
  | _, _, .cons (n := n) r t, e => by
    rw [List.lookup_cons] at e ⊢
    cases q : f == n with
    | true => rw [q] at e; simp only at e; cases e
    | false => rw [q] at e; simp only at e; exact DRf.lookup_none t e
end

/-! ### the box that the law draws from, and the cells -/
/-- what may change: a list, a dict, an object -/
inductive Cell where
  | lst (ds : List D) | dct (kvs : List (Key × D)) | obj (c : Str) (fs : List (Str × D))
structure Bx where
  cells : List Int
  ix : Nat
  big : Int
  mark : Int
  st : List Cell := []
def CellOk (g : G) (F : FH) (H : Hp) (a : Addr) : Cell → Prop
  | .lst ds => ∃ vs, H a = some (.lst vs) ∧ DRs g F vs ds
  | .dct kvs => ∃ xs, H a = some (.dK xs) ∧ DRk g F xs kvs
  | .obj c fs => ∃ C dx vs, H a = some (.ins C dx vs) ∧ H dx = some (.own a) ∧ g.cls c = some C ∧ DRf g F vs fs
theorem CellOk.at_ {g : G} {F : FH} {H : Hp} {a : Addr} {c : Cell} (h : CellOk g F H a c) : H a ≠ none := by
  cases c with
  | lst ds => obtain ⟨_, e, _⟩ := h; rw [e]; simp
  | dct ds => obtain ⟨_, e, _⟩ := h; rw [e]; simp
  | obj c ds => obtain ⟨_, _, _, e, _⟩ := h; rw [e]; simp
/-- a cell is kept while it is not changed itself -/
theorem CellOk.keep {g : G} {F F' : FH} {H H' : Hp} {a : Addr} {c : Cell} (h : CellOk g F H a c) (e : FSame F F') (ka : H' a = H a) (ko : ∀ b x, H b = some (.own x) → H' b = some (.own x)) : CellOk g F' H' a c := by
  cases c with
  | lst ds => obtain ⟨vs, e1, r⟩ := h; exact ⟨vs, ka.trans e1, r.mono e⟩
  | dct ds => obtain ⟨vs, e1, r⟩ := h; exact ⟨vs, ka.trans e1, r.mono e⟩
  | obj c ds => obtain ⟨C, dx, vs, e1, e2, e3, r⟩ := h; exact ⟨C, dx, vs, ka.trans e1, ko _ _ e2, e3, r.mono e⟩
structure BxOk (g : G) (F : FH) (w : Bx) (H : Hp) : Prop where
  at_ : ∃ c, H g.bx = some (.lst [.ref c, .int (w.ix : Int), .int w.big, .int w.mark]) ∧ F c = some (.lst (w.cells.map V.int))
  no : F g.bx = none
  big0 : 0 ≤ w.big
  mk0 : 0 ≤ w.mark
  mk1 : w.mark < 2147483647
  nc : w.cells.length ≤ 63
  cel : ∀ i c, w.st[i]? = some c → ∃ a, F.ad i = some a ∧ F.fz a = none ∧ a ≠ g.bx ∧ CellOk g F H a c
  adl : ∀ i a, F.ad i = some a → i < w.st.length
  inj : ∀ i j a, F.ad i = some a → F.ad j = some a → i = j
  tabs : LamX.Tabs g.cls.tb H
  ntb : ∀ a ps, F.fz a ≠ some (.tbl ps)
theorem BxOk.nocell {g : G} {F : FH} {w : Bx} {H : Hp} (b : BxOk g F w H) {i : Nat} {a : Addr} (h : F.ad i = some a) : F.fz a = none ∧ a ≠ g.bx ∧ H a ≠ none := by
  have hl := b.adl i a h
  obtain ⟨a', e1, e2, e3, e4⟩ := b.cel i _ (List.getElem?_eq_getElem hl)
  rw [h] at e1; cases e1
  exact ⟨e2, e3, e4.at_⟩
theorem BxOk.nobx {g : G} {F : FH} {w : Bx} {H : Hp} (b : BxOk g F w H) : F.free g.bx := ⟨b.no, fun i h => (b.nocell h).2.1 rfl⟩

/-! ### how the heap may turn while an expression is evaluated -/
structure Ext (g : G) (F : FH) (H : Hp) (F' : FH) (H' : Hp) (w : Bx) : Prop where
  ff : FSame F F'
  hh : ∀ a o, a ≠ g.bx → (∀ i, F.ad i ≠ some a) → (∀ ps, o ≠ .tbl ps) → H a = some o → H' a = some o
  dom : ∀ a, H' a = none → H a = none
  new : ∀ a o, F' a = some o → F a = some o ∨ H a = none
  nad : ∀ i a, F'.ad i = some a → F.ad i = some a ∨ H a = none
  sub : Same F' H'
  bx : BxOk g F' w H'
theorem Tabs.keep {T : List (Addr × Str)} {H H' : Hp} (t : LamX.Tabs T H) (k : ∀ a o, (∀ vs, o ≠ .lst vs) → (∀ vs, o ≠ .dK vs) → (∀ C d vs, o ≠ .ins C d vs) → H a = some o → H' a = some o) : LamX.Tabs T H' := fun p hp => by
  obtain ⟨ps, h1, h2, h3⟩ := t p hp
  refine ⟨ps, k _ _ (fun _ z => by cases z) (fun _ z => by cases z) (fun _ _ _ z => by cases z) h1, h2, fun pos cv hc => ?_⟩
  obtain ⟨c, e1, e2⟩ := h3 pos cv hc
  exact ⟨c, e1, k _ _ (fun _ z => by unfold LamX.CodeO at z; cases z) (fun _ z => by unfold LamX.CodeO at z; cases z) (fun _ _ _ z => by unfold LamX.CodeO at z; cases z) e2⟩
/-- more is frozen -/
theorem BxOk.mono {g : G} {F F' : FH} {H : Hp} {w : Bx} (b : BxOk g F w H) (e : FSame F F') (ea : F'.ad = F.ad) (n : F' g.bx = none) (nc : ∀ i a, F.ad i = some a → F'.fz a = none) (nt : ∀ a ps, F'.fz a ≠ some (.tbl ps)) : BxOk g F' w H where
  at_ := let ⟨c, h1, h2⟩ := b.at_; ⟨c, h1, e.fz _ _ h2⟩
  no := n
  big0 := b.big0
  mk0 := b.mk0
  mk1 := b.mk1
  nc := b.nc
  cel := fun i c h => let ⟨a, h1, _, h3, h4⟩ := b.cel i c h; ⟨a, by rw [ea]; exact h1, nc i a h1, h3, h4.keep e rfl fun _ _ q => q⟩
  adl := by rw [ea]; exact b.adl
  inj := by rw [ea]; exact b.inj
  tabs := b.tabs
  ntb := nt
/-- the heap turns, away from the box and the cells -/
theorem BxOk.heap {g : G} {F : FH} {H H' : Hp} {w : Bx} (b : BxOk g F w H) (e : H' g.bx = H g.bx) (kc : ∀ i a, F.ad i = some a → H' a = H a) (ko : ∀ a o, (∀ vs, o ≠ .lst vs) → (∀ vs, o ≠ .dK vs) → (∀ C d vs, o ≠ .ins C d vs) → H a = some o → H' a = some o) : BxOk g F w H' where
  at_ := let ⟨c, h1, h2⟩ := b.at_; ⟨c, e.trans h1, h2⟩
  no := b.no
  big0 := b.big0
  mk0 := b.mk0
  mk1 := b.mk1
  nc := b.nc
  cel := fun i c h => let ⟨a, h1, h2, h3, h4⟩ := b.cel i c h; ⟨a, h1, h2, h3, h4.keep (FSame.refl F) (kc i a h1) fun x y q => ko x _ (fun _ z => by cases z) (fun _ z => by cases z) (fun _ _ _ z => by cases z) q⟩
  adl := b.adl
  inj := b.inj
  tabs := Tabs.keep b.tabs ko
  ntb := b.ntb
/-- all stays -/
theorem BxOk.grow {g : G} {F : FH} {H H' : Hp} {w : Bx} (b : BxOk g F w H) (k : ∀ a o, H a = some o → H' a = some o) : BxOk g F w H' := by
  refine b.heap ?_ (fun i a h => ?_) (fun a o _ _ _ h => k a o h)
  · obtain ⟨c, h1, _⟩ := b.at_; rw [h1]; exact k _ _ h1
  · cases q : H a with
    | none => exact absurd q (b.nocell h).2.2
    | some o => exact k _ _ q
section
variable {g : G} {F F1 F2 : FH} {H H1 H2 : Hp} {w w1 w2 : Bx}
theorem Ext.refl (s : Same F H) (b : BxOk g F w H) : Ext g F H F H w := ⟨FSame.refl F, fun _ _ _ _ _ h => h, fun _ h => h, fun _ _ h => .inl h, fun _ _ h => .inl h, s, b⟩
theorem Ext.fresh (a : Ext g F H F1 H1 w) {p : Addr} (n : H1 p = none) : H p = none := a.dom p n
theorem Ext.trans (a : Ext g F H F1 H1 w1) (b : Ext g F1 H1 F2 H2 w2) : Ext g F H F2 H2 w2 where
  ff := a.ff.trans b.ff
  hh := fun x o n nc nt h => b.hh x o n (fun i q => (a.nad i x q).elim (nc i) fun z => by rw [h] at z; cases z) nt (a.hh x o n nc nt h)
  dom := fun x h => a.dom x (b.dom x h)
  new := fun x o h => by
    rcases b.new x o h with h1 | h1
    · exact a.new x o h1
    · exact .inr (a.dom x h1)
  nad := fun i x h => by
    rcases b.nad i x h with h1 | h1
    · exact a.nad i x h1
    · exact .inr (a.dom x h1)
  sub := b.sub
  bx := b.bx
theorem upd_dom {H : Hp} {p a : Addr} {o : HO} (h : upd H p o a = none) : H a = none := by
  by_cases e : a = p
  · rw [e, upd_same] at h; cases h
  · rw [upd_ne e] at h; exact h
/-- a new object is laid, and frozen -/
theorem Ext.lay {p : Addr} {o : HO} (s : Same F H) (b : BxOk g F w H) (np : H p = none) (ho : ∀ ps, o ≠ .tbl ps := by intro _ z; cases z) : Ext g F H (F.upd p o) (upd H p o) w := by
  have nF : F p = none := by
    cases q : F p with
    | none => rfl
    | some u => rw [s p u q] at np; cases np
  have nb : p ≠ g.bx := fun e => by
    obtain ⟨c, h, _⟩ := b.at_
    rw [e, h] at np; cases np
  have nc : ∀ i, F.ad i ≠ some p := fun i h => (b.nocell h).2.2 np
  have fs : FSame F (F.upd p o) := ⟨fun a u h => by show upd F.fz p o a = some u; rw [upd_ne (ne_of_none h nF)]; exact h, fun _ _ h => h⟩
  refine ⟨fs, fun a u _ _ _ h => ?_, fun a h => upd_dom h, fun a u h => ?_, fun _ _ h => .inl h, fun a u h => ?_, ?_⟩
  · rw [upd_ne (ne_of_none h np)]; exact h
  · by_cases e : a = p
    · exact .inr (e ▸ np)
    · have h : upd F.fz p o a = some u := h
      rw [upd_ne e] at h; exact .inl h
  · have h : upd F.fz p o a = some u := h
    by_cases e : a = p
    · rw [e, upd_same] at h ⊢; exact h
    · rw [upd_ne e] at h ⊢; exact s a u h
  · refine (b.mono fs rfl ?_ (fun i a h => ?_) fun a ps h => ?_).grow fun a u h => ?_
    · show upd F.fz p o g.bx = none
      rw [upd_ne nb.symm]; exact b.no
    · show upd F.fz p o a = none
      rw [upd_ne (show a ≠ p from fun z => nc i (z ▸ h))]; exact (b.nocell h).1
    · have h : upd F.fz p o a = some (.tbl ps) := h
      by_cases e : a = p
      · rw [e, upd_same] at h; cases h; exact ho ps rfl
      · rw [upd_ne e] at h; exact b.ntb a ps h
    · rw [upd_ne (ne_of_none h np)]; exact h
/-- a new object is laid, not frozen yet -/
theorem Ext.own {p : Addr} {o : HO} (s : Same F H) (b : BxOk g F w H) (np : H p = none) : Ext g F H F (upd H p o) w := by
  have k : ∀ a u, H a = some u → upd H p o a = some u := fun a u h => by rw [upd_ne (ne_of_none h np)]; exact h
  exact ⟨FSame.refl F, fun a u _ _ _ h => k a u h, fun a h => upd_dom h, fun _ _ h => .inl h, fun _ _ h => .inl h, fun a u h => k a u (s a u h), b.grow k⟩
/-- an object that is not frozen is frozen -/
theorem Ext.freeze {p : Addr} {o : HO} (a : Ext g F H F1 H1 w) (np : H p = none) (n1 : F1.free p) (h1 : H1 p = some o) (nb : p ≠ g.bx) (ho : ∀ ps, o ≠ .tbl ps := by intro _ z; cases z) : Ext g F H (F1.upd p o) H1 w := by
  have fs : FSame F1 (F1.upd p o) := ⟨fun x u h => by show upd F1.fz p o x = some u; rw [upd_ne (ne_of_none h n1.1)]; exact h, fun _ _ h => h⟩
  refine ⟨a.ff.trans fs, a.hh, a.dom, fun x u h => ?_, a.nad, fun x u h => ?_, a.bx.mono fs rfl ?_ (fun i x h => ?_) fun x ps h => ?_⟩
  · have h : upd F1.fz p o x = some u := h
    by_cases e : x = p
    · exact .inr (e ▸ np)
    · rw [upd_ne e] at h; exact a.new x u h
  · have h : upd F1.fz p o x = some u := h
    by_cases e : x = p
    · rw [e, upd_same] at h; rw [e, h1]; exact h
    · rw [upd_ne e] at h; exact a.sub x u h
  · show upd F1.fz p o g.bx = none
    rw [upd_ne nb.symm]; exact a.bx.no
  · show upd F1.fz p o x = none
    rw [upd_ne (show x ≠ p from fun z => n1.2 i (z ▸ h))]; exact (a.bx.nocell h).1
  · have h : upd F1.fz p o x = some (.tbl ps) := h
    by_cases e : x = p
    · rw [e, upd_same] at h; cases h; exact ho ps rfl
    · rw [upd_ne e] at h; exact a.bx.ntb x ps h
/-- what is not in the heap is free -/
theorem free_of (s : Same F H) (b : BxOk g F w H) {p : Addr} (n : H p = none) : F.free p := by
  refine ⟨?_, fun i h => (b.nocell h).2.2 n⟩
  cases q : F p with
  | none => rfl
  | some u => rw [s p u q] at n; cases n
/-- what was free and there stays free -/
theorem Ext.free (x : Ext g F H F1 H1 w) {p : Addr} {o : HO} (n : F.free p) (h : H p = some o) : F1.free p := by
  refine ⟨?_, fun i q => ?_⟩
  · cases q : F1.fz p with
    | none => rfl
    | some u =>
      rcases x.new p u q with z | z
      · rw [show F.fz p = none from n.1] at z; cases z
      · rw [h] at z; cases z
  · rcases x.nad i p q with z | z
    · exact n.2 i z
    · rw [h] at z; cases z
end

/-! ### results -/
inductive R (α : Type) where
  | ok (a : α) (w : Bx) | err (c : Str) (fs : List (Str × D)) (w : Bx) | bad
def R.bind {α β : Type} : R α → (α → Bx → R β) → R β
  | .ok a w, k => k a w
  | .err c fs w, _ => .err c fs w
  | .bad, _ => .bad
def R.ofO {α : Type} : Option α → Bx → R α
  | some a, w => .ok a w
  | none, _ => .bad
@[simp] theorem R.bind_ok {α β : Type} (a : α) (w : Bx) (k : α → Bx → R β) : (R.ok a w).bind k = k a w := rfl
@[simp] theorem R.bind_err {α β : Type} (c : Str) (fs : List (Str × D)) (w : Bx) (k : α → Bx → R β) : (R.err c fs w : R α).bind k = .err c fs w := rfl
@[simp] theorem R.bind_bad {α β : Type} (k : α → Bx → R β) : (R.bad : R α).bind k = .bad := rfl
@[simp] theorem R.ofO_some {α : Type} (a : α) (w : Bx) : R.ofO (some a) w = .ok a w := rfl
@[simp] theorem R.ofO_none {α : Type} (w : Bx) : (R.ofO none w : R α) = .bad := rfl

/-- what is wanted of an exception of the class c -/
def PErr (g : G) (F : FH) (H : Hp) (E : XK) (c : Str) (fs : List (Str × D)) (w : Bx) : Prop :=
  ∀ (cl a : Addr) (vs : List (Str × V)) (H' : Hp) (F' : FH), Ext g F H F' H' w → H a = none → g.cls c = some cl → H' a = some (.xd vs) → DRf g F' vs fs → E (.ref cl) (some a) H'
/-- the wish of a result: Qk of a good one -/
def PostG {α : Type} (g : G) (F : FH) (H : Hp) (E : XK) (Qk : α → Bx → Prop) : R α → Prop
  | .ok a w => Qk a w
  | .err c fs w => PErr g F H E c fs w
  | .bad => False
def Post (g : G) (F : FH) (H : Hp) (Q : VK) (E : XK) : R D → Prop := PostG g F H E fun d w => ∀ (v : V) (H' : Hp) (F' : FH), Ext g F H F' H' w → DR g F' v d → Q v H'
def PostA (g : G) (F : FH) (H : Hp) (Q : List V → Hp → Prop) (E : XK) : R (List D) → Prop := PostG g F H E fun ds w => ∀ (vs : List V) (H' : Hp) (F' : FH), Ext g F H F' H' w → DRs g F' vs ds → Q vs H'
def PostT (g : G) (F : FH) (H : Hp) (Q : Bool → Hp → Prop) (E : XK) : R Bool → Prop := PostG g F H E fun b w => ∀ (H' : Hp) (F' : FH), Ext g F H F' H' w → Q b H'
/-- a new list, not frozen -/
def PostO (g : G) (F : FH) (H : Hp) (Q : VK) (E : XK) : R (List D) → Prop := PostG g F H E fun ds w => ∀ (p : Addr) (vs : List V) (H' : Hp) (F' : FH), Ext g F H F' H' w → H p = none → F'.free p → H' p = some (.lst vs) → DRs g F' vs ds → Q (.ref p) H'
section
variable {g : G} {F F1 F2 : FH} {H H1 H2 : Hp} {w w1 w2 : Bx} {E : XK}
theorem PErr.of {c : Str} {fs : List (Str × D)} (a : Ext g F H F1 H1 w) (h : PErr g F H E c fs w2) : PErr g F1 H1 E c fs w2 :=
  fun cl x vs H' F' e n k l r => h cl x vs H' F' (a.trans e) (a.fresh n) k l r
/-- a step, then the rest -/
theorem PostG.bind {α β : Type} {r : R α} {k : α → Bx → R β} {Qk : β → Bx → Prop} (h : PostG g F H E Qk (r.bind k)) : PostG g F H E (fun a w => PostG g F H E Qk (k a w)) r := by
  cases r with
  | ok a w => exact h
  | err c fs w => exact h
  | bad => exact h
theorem PostG.imp {α : Type} {r : R α} {Q1 Q2 : α → Bx → Prop} (h : PostG g F H E Q1 r) (i : ∀ a w, r = .ok a w → Q1 a w → Q2 a w) : PostG g F H E Q2 r := by
  cases r with
  | ok a w => exact i a w rfl h
  | err c fs w => exact h
  | bad => exact h
/-- the wish as it is behind a step -/
theorem PostG.ext {α : Type} {r : R α} {Q1 Q2 : α → Bx → Prop} (a : Ext g F H F1 H1 w) (h : PostG g F H E Q1 r) (i : ∀ a w, Q1 a w → Q2 a w) : PostG g F1 H1 E Q2 r := by
  cases r with
  | ok x w => exact i x w h
  | err c fs w => exact PErr.of a h
  | bad => exact h
theorem Post.of {r : R D} {Q : VK} (a : Ext g F H F1 H1 w) (h : Post g F H Q E r) : Post g F1 H1 Q E r :=
  PostG.ext a h fun _ _ q v H' F' e r => q v H' F' (a.trans e) r
theorem PostA.of {r : R (List D)} {Q : List V → Hp → Prop} (a : Ext g F H F1 H1 w) (h : PostA g F H Q E r) : PostA g F1 H1 Q E r :=
  PostG.ext a h fun _ _ q v H' F' e r => q v H' F' (a.trans e) r
theorem PostT.of {r : R Bool} {Q : Bool → Hp → Prop} (a : Ext g F H F1 H1 w) (h : PostT g F H Q E r) : PostT g F1 H1 Q E r :=
  PostG.ext a h fun _ _ q H' F' e => q H' F' (a.trans e)
theorem PostO.of {r : R (List D)} {Q : VK} (a : Ext g F H F1 H1 w) (h : PostO g F H Q E r) : PostO g F1 H1 Q E r :=
  PostG.ext a h fun _ _ q p vs H' F' e n => q p vs H' F' (a.trans e) (a.fresh n)
/-- a good end where it stands -/
theorem Post.now {d : D} {v : V} {Q : VK} (h : Post g F H Q E (.ok d w)) (s : Same F H) (b : BxOk g F w H) (r : DR g F v d) : Q v H := h v H F (Ext.refl s b) r
end
end Y
namespace Y
open PySem PySem.Spec PyProof.Rows L2
/-! ### slots -/
/-- a lambda: its qualified name, its parameters, body and scope -/
structure LamI where
  q : Str
  ps : Arguments
  bd : Expr
  sc : Scope
/-- the function object of a lambda, its closure from the cells cl -/
def LamF (cl : List (Str × Addr)) (f c' : Addr) (dV : Value) (l : LamI) : HO := .ext fun h => ∃ doc pm ctv, h.get? f = some (PySem.W.kdv_obj "<lambda>" l.q l.ps (.expr l.bd) l.sc (cloFrom cl l.sc.names []) dV doc pm c' ctv)
/-- its defaults: none, or a number -/
def DflF (F : Hp) (dV : Value) (ps : Arguments) : Prop := (ps.defaults = [] ∧ dV = .none) ∨ ∃ t i j p, ps.defaults = [.Constant (.int i) j p] ∧ dV = .ref t ∧ F t = some (.tup [.int i])
inductive SV where
  | dat (d : D) | own (ds : List D) | ins (c : Str) (fs : List (Str × D)) | lam (ls : List LamI)
/-- a list of lambdas, laid and frozen; their code objects are known -/
inductive LamsOk (g : G) (F : FH) (H : Hp) : List V → List LamI → Prop
  | nil : LamsOk g F H [] []
  | cons {f c' : Addr} {dV : Value} {l : LamI} {vs : List V} {ls : List LamI} (hf : F f = some (LamF g.cl f c' dV l)) (hd : DflF F dV l.ps) (nb : c' ≠ g.bx) (na : ∀ i, F.ad i ≠ some c') (hc : H c' = some (LamX.CodeO c' l.q)) (r : LamsOk g F H vs ls) : LamsOk g F H (.ref f :: vs) (l :: ls)
abbrev SL := List (Option SV)
/-- what is wished of an exception, at the slots -/
abbrev EK := L2.St → XK
abbrev kE (E : XK) : EK := fun _ => E
def SvOk (g : G) (F : FH) (H : Hp) : SV → V → Prop
  | .dat d, v => DR g F v d
  | .own ds, v => ∃ p vs, v = .ref p ∧ F.free p ∧ p ≠ g.bx ∧ H p = some (.lst vs) ∧ DRs g F vs ds
  | .lam ls, v => ∃ p vs, v = .ref p ∧ F p = some (.lst vs) ∧ LamsOk g F H vs ls
  | .ins c fs, v => ∃ C vs, v = .ref g.me ∧ g.cls c = some C ∧ F.free g.me ∧ F.free g.md ∧ g.me ≠ g.bx ∧ g.md ≠ g.bx ∧ H g.me = some (.ins C g.md vs) ∧ H g.md = some (.own g.me) ∧ DRf g F vs fs
structure Rel (g : G) (F : FH) (w : Bx) (S : SL) (σ : L2.St) (H : Hp) : Prop where
  sub : Same F H
  bx : BxOk g F w H
  len : S.length = σ.length
  sl : ∀ (i : Nat) (s : SV), S[i]? = some (some s) → ∃ v, σ[i]? = some (some v) ∧ SvOk g F H s v
  inj : ∀ (i j : Nat) (ds ds2 : List D) (v : V), S[i]? = some (some (.own ds)) → S[j]? = some (some (.own ds2)) → σ[i]? = some (some v) → σ[j]? = some (some v) → i = j
theorem DflF.mono {F F' : Hp} {dV : Value} {ps : Arguments} (e : Same F F') (h : DflF F dV ps) : DflF F' dV ps := by
  rcases h with h | ⟨t, i, j, p, h1, h2, h3⟩
  · exact .inl h
  · exact .inr ⟨t, i, j, p, h1, h2, e _ _ h3⟩
theorem LamsOk.keep {g : G} {F F' : FH} {H H' : Hp} (e : Same F.fz F'.fz) (ka : ∀ a q, a ≠ g.bx → (∀ i, F.ad i ≠ some a) → H a = some (LamX.CodeO a q) → H' a = some (LamX.CodeO a q) ∧ ∀ i, F'.ad i ≠ some a) : ∀ {vs : List V} {ls : List LamI}, LamsOk g F H vs ls → LamsOk g F' H' vs ls
  | _, _, .nil => .nil
  | _, _, .cons hf hd nb na hc r => .cons (e _ _ hf) (hd.mono e) nb (ka _ _ nb na hc).2 (ka _ _ nb na hc).1 (r.keep e ka)
theorem LamsOk.ext {g : G} {F F' : FH} {H H' : Hp} {w : Bx} {vs : List V} {ls : List LamI} (x : Ext g F H F' H' w) (h : LamsOk g F H vs ls) : LamsOk g F' H' vs ls :=
  h.keep x.ff.fz fun a q nb na hc => ⟨x.hh a _ nb na LamX.codeO_ne hc, fun i z => by
    rcases x.nad i a z with y | y
    · exact na i y
    · rw [hc] at y; cases y⟩
/-- another object turns -/
theorem LamsOk.upd {g : G} {F : FH} {H : Hp} {q : Addr} {o o' : HO} {vs : List V} {ls : List LamI} (h : LamsOk g F H vs ls) (hq : H q = some o) (ne : ∀ z, o ≠ .ext z) : LamsOk g F (L2.upd H q o') vs ls :=
  h.keep (Same.refl _) fun a z nb na hc => ⟨by rw [upd_ne fun e => by rw [e, hq] at hc; exact ne _ (Option.some.inj hc)]; exact hc, na⟩
theorem SvOk.ext {g : G} {F F' : FH} {H H' : Hp} {w : Bx} {s : SV} {v : V} (x : Ext g F H F' H' w) (h : SvOk g F H s v) : SvOk g F' H' s v := by
  cases s with
  | dat d => exact DR.mono x.ff h
  | own ds =>
    obtain ⟨p, vs, e, n, nb, hp, r⟩ := h
    exact ⟨p, vs, e, x.free n hp, nb, x.hh p _ nb n.2 (fun _ z => by cases z) hp, r.mono x.ff⟩
  | lam ls =>
    obtain ⟨p, vs, e, h1, h2⟩ := h
    exact ⟨p, vs, e, x.ff.fz _ _ h1, h2.ext x⟩
  | ins c fs =>
    obtain ⟨C, vs, e, hc, n1, n2, nb1, nb2, h1, h2, r⟩ := h
    exact ⟨C, vs, e, hc, x.free n1 h1, x.free n2 h2, nb1, nb2, x.hh _ _ nb1 n1.2 (fun _ z => by cases z) h1, x.hh _ _ nb2 n2.2 (fun _ z => by cases z) h2, r.mono x.ff⟩
theorem Rel.ext {g : G} {F F' : FH} {H H' : Hp} {w w' : Bx} {S : SL} {σ : L2.St} (R : Rel g F w S σ H) (x : Ext g F H F' H' w') : Rel g F' w' S σ H' :=
  ⟨x.sub, x.bx, R.len, fun i s e => let ⟨v, h1, h2⟩ := R.sl i s e; ⟨v, h1, h2.ext x⟩, R.inj⟩
theorem Rel.ex {g : G} {F : FH} {H : Hp} {w : Bx} {S : SL} {σ : L2.St} (R : Rel g F w S σ H) : Ext g F H F H w := Ext.refl R.sub R.bx

/-! ### the judgements -/
abbrev EM := SL → Bx → R D
abbrev TM := SL → Bx → R Bool
abbrev AM := SL → Bx → R (List D)
structure DE (X : Cx) (g : G) (E : EK) (e : Expr) (f : EM) : Prop where
  run : ∃ t, PE X e t ∧ ∀ σ H Q F S w, Rel g F w S σ H → Post g F H Q (E σ) (f S w) → t σ H Q
/-- a new list -/
structure DO (X : Cx) (g : G) (E : EK) (e : Expr) (f : AM) : Prop where
  run : ∃ t, PE X e t ∧ ∀ σ H Q F S w, Rel g F w S σ H → PostO g F H Q (E σ) (f S w) → t σ H Q
structure DT (X : Cx) (g : G) (E : EK) (e : Expr) (f : TM) : Prop where
  run : ∃ t, PT X e t ∧ ∀ σ H Q F S w, Rel g F w S σ H → PostT g F H Q (E σ) (f S w) → t σ H Q
structure DW (X : Cx) (g : G) (E : EK) (e : Expr) (f : TM) : Prop where
  run : ∃ t, PW X e t ∧ ∀ σ H Q F S w, Rel g F w S σ H → PostT g F H Q (E σ) (f S w) → t σ H Q
structure DA (X : Cx) (g : G) (E : EK) (es : List Expr) (f : AM) : Prop where
  run : ∃ t, PA X es t ∧ ∀ σ H Q F S w, Rel g F w S σ H → PostA g F H Q (E σ) (f S w) → t σ H Q

section
variable {X : Cx} {g : G} {E : EK} {e a b c : Expr} {es : List Expr} {pos : Pos} {fa fb f : EM} {fc : TM}
/-! ### names, constants -/
def eVar (i : Nat) : EM := fun S w => match S[i]? with
  | some (some (.dat d)) => .ok d w
  | _ => .bad
def eC (d : D) : EM := fun _ w => .ok d w
theorem de_var (i : Nat) {x : Str} (hN : X.N[i]? = some x := by rfl) (hv : Vis X.env.scope x := by first | exact Or.inl rfl | exact Or.inr (Or.inl rfl) | exact Or.inr (Or.inr rfl)) (hd : (x == ("__debug__" : Str)) = false := by decide)
    (hcd : (x == ("__classdict__" : Str)) = false := by decide) : DE X g E (.Name x pos) (eVar i) := by
  refine ⟨_, pe_var hN hv hd hcd, fun σ H Q F S w R h => ?_⟩
  unfold eVar at h
  split at h
  · rename_i d hs
    obtain ⟨v, e1, e2⟩ := R.sl i _ hs
    exact ⟨v, e1, h v H F R.ex e2⟩
  · exact h.elim
theorem de_int {i : Int} {j : Nat} : DE X g E (.Constant (.int i) j pos) (eC (.int i)) := ⟨_, pe_int, fun σ H Q F S w R h => h _ H F R.ex (.int i)⟩
theorem de_bl {i : Bool} {j : Nat} : DE X g E (.Constant (.bool i) j pos) (eC (.bl i)) := ⟨_, pe_bl, fun σ H Q F S w R h => h _ H F R.ex (.bl i)⟩
theorem de_str {i : Str} {j : Nat} : DE X g E (.Constant (.str i) j pos) (eC (.str i)) := ⟨_, pe_str, fun σ H Q F S w R h => h _ H F R.ex (.str i)⟩
theorem de_non {j : Nat} : DE X g E (.Constant .none j pos) (eC .non) := ⟨_, pe_non, fun σ H Q F S w R h => h _ H F R.ex .non⟩
theorem de_glob {x : Str} {v : V} {u : Value} {d : D} (hm : X.mg x = some u) (r : RelV v u) (hd : ∀ F, DR g F v d) (hg : Gl X x := by rfl) (hdb : (x == ("__debug__" : Str)) = false := by decide) : DE X g E (.Name x pos) (eC d) :=
  ⟨_, pe_glob hg hm r hdb, fun σ H Q F S w R h => h _ H F R.ex (hd F)⟩

/-! ### operators -/
/-- r does on values what m does on data -/
def OpD (g : G) (r : R2) (m : D → D → Option D) : Prop := ∀ (F : FH) (H : Hp) (w : Bx) (x y : V) (d e z : D) (Q : VK), Same F H → BxOk g F w H → DR g F x d → DR g F y e → m d e = some z →
  (∀ v H' F', Ext g F H F' H' w → DR g F' v z → Q v H') → r x y H Q
def eBin (m : D → D → Option D) (fa fb : EM) : EM := fun S w => (fa S w).bind fun d w1 => (fb S w1).bind fun e w2 => R.ofO (m d e) w2
theorem post_ofO {E1 : XK} {F : FH} {H : Hp} {Q : D → Bx → Prop} {o : Option D} {w : Bx} (h : PostG g F H E1 Q (R.ofO o w)) : ∃ z, o = some z ∧ Q z w := by
  cases o with
  | none => exact h.elim
  | some z => exact ⟨z, rfl, h⟩
theorem post_ofO' {α : Type} {E1 : XK} {F : FH} {H : Hp} {Q : α → Bx → Prop} {o : Option α} {w : Bx} (h : PostG g F H E1 Q (R.ofO o w)) : ∃ z, o = some z ∧ Q z w := by
  cases o with
  | none => exact h.elim
  | some z => exact ⟨z, rfl, h⟩
theorem bin_run {r : R2} {m : D → D → Option D} {ta tb : TE} (hm : OpD g r m) (ra : ∀ σ H Q F S w, Rel g F w S σ H → Post g F H Q (E σ) (fa S w) → ta σ H Q) (rb : ∀ σ H Q F S w, Rel g F w S σ H → Post g F H Q (E σ) (fb S w) → tb σ H Q) :
    ∀ σ H Q F S w, Rel g F w S σ H → Post g F H Q (E σ) (eBin m fa fb S w) → tOp r ta tb σ H Q := by
  intro σ H Q F S w R h
  refine ra σ H _ F S w R (PostG.imp (PostG.bind h) fun d w1 _ h1 v H1 F1 x1 r1 => ?_)
  refine rb σ H1 _ F1 S w1 (R.ext x1) (PostG.ext x1 (PostG.bind h1) fun e w2 h2 u H2 F2 x2 r2 => ?_)
  obtain ⟨z, hz, q⟩ := post_ofO h2
  exact hm F2 H2 w2 v u d e z Q x2.sub x2.bx (r1.mono x2.ff) r2 hz fun v' H' F' x3 r3 => q v' H' F' ((x1.trans x2).trans x3) r3
theorem de_op {op : Operator} {r : R2} {m : D → D → Option D} (ho : OpR X (binaryOp op) r) (hm : OpD g r m) (ha : DE X g E a fa) (hb : DE X g E b fb) : DE X g E (.BinOp a op b pos) (eBin m fa fb) := by
  obtain ⟨ta, pa, ra⟩ := ha.run
  obtain ⟨tb, pb, rb⟩ := hb.run
  exact ⟨_, pe_op ho pa pb, bin_run hm ra rb⟩
theorem de_cmp {op : CmpOp} {r : R2} {m : D → D → Option D} (ho : OpR X (compareOp op) r) (hm : OpD g r m) (ha : DE X g E a fa) (hb : DE X g E b fb) (hk : behindInMarks op b = false := by first | exact nomark _ | rfl) : DE X g E (.Compare a [op] [b] pos) (eBin m fa fb) := by
  obtain ⟨ta, pa, ra⟩ := ha.run
  obtain ⟨tb, pb, rb⟩ := hb.run
  exact ⟨_, pe_cmpR ho pa pb hk, bin_run hm ra rb⟩
/-- a value that must be a bool, as a test -/
def tOf (f : EM) : TM := fun S w => (f S w).bind fun d w1 => match d with
  | .bl b => .ok b w1
  | _ => .bad
theorem dt_of {ta : TE} (ra : ∀ σ H Q F S w, Rel g F w S σ H → Post g F H Q (E σ) (fa S w) → ta σ H Q) :
    ∀ σ H (Q : Bool → Hp → Prop) F S w, Rel g F w S σ H → PostT g F H Q (E σ) (tOf fa S w) → ta σ H (fun x H' => ∃ k, x = .bl k ∧ Q k H') := by
  intro σ H Q F S w R h
  refine ra σ H _ F S w R (PostG.imp (PostG.bind h) fun d w1 _ h1 v H1 F1 x1 r1 => ?_)
  cases r1 with
  | bl k => exact ⟨k, rfl, h1 H1 F1 x1⟩
  | _ => exact h1.elim
theorem dt_val (ha : DE X g E a fa) (he : ∀ whole, isTrue a X.env whole = (do let v ← whole; standAt a.pos; holding [v] (truthy v)) := by intro _; rfl) : DT X g E a (tOf fa) := by
  obtain ⟨ta, pa, ra⟩ := ha.run
  exact ⟨_, pt_val pa he, dt_of ra⟩
theorem dt_cmp {op : CmpOp} {r : R2} {m : D → D → Option D} (ho : OpR X (compareOp op) r) (hm : OpD g r m) (ha : DE X g E a fa) (hb : DE X g E b fb) (hk : behindInMarks op b = false := by first | exact nomark _ | rfl) : DT X g E (.Compare a [op] [b] pos) (tOf (eBin m fa fb)) := by
  obtain ⟨ta, pa, ra⟩ := ha.run
  obtain ⟨tb, pb, rb⟩ := hb.run
  exact ⟨_, pt_cmpR ho pa pb hk, dt_of (bin_run hm ra rb)⟩
/-! ### and, or, not, if .. else -/
def tNotM (f : TM) : TM := fun S w => (f S w).bind fun b w1 => .ok (!b) w1
def tAndM (f h : TM) : TM := fun S w => (f S w).bind fun b w1 => if b then h S w1 else .ok false w1
def tOrM (f h : TM) : TM := fun S w => (f S w).bind fun b w1 => if b then .ok true w1 else h S w1
def eIf (t : TM) (fa fb : EM) : EM := fun S w => (t S w).bind fun b w1 => if b then fa S w1 else fb S w1
def eNotM (f : EM) : EM := fun S w => (tOf f S w).bind fun b w1 => .ok (.bl (!b)) w1
def eAndM (f h : EM) : EM := fun S w => (tOf f S w).bind fun b w1 => if b then h S w1 else .ok (.bl false) w1
def eOrM (f h : EM) : EM := fun S w => (tOf f S w).bind fun b w1 => if b then .ok (.bl true) w1 else h S w1
variable {ta tb : TM} {rest : List Expr}
theorem DW.t (h : DW X g E e ta) : DT X g E e ta := let ⟨t, p, r⟩ := h.run; ⟨t, p.pt, r⟩
theorem dt_not (h : DT X g E a ta) : DT X g E (.UnaryOp .Not a pos) (tNotM ta) := by
  obtain ⟨t, p, r⟩ := h.run
  refine ⟨_, pt_not p, fun σ H Q F S w R h => ?_⟩
  exact r σ H _ F S w R (PostG.imp (PostG.bind h) fun b w1 _ h1 H1 F1 x1 => h1 H1 F1 x1)
theorem dw_and1 (h : DT X g E a ta) : DW X g E (.BoolOp .And [a] pos) ta := let ⟨t, p, r⟩ := h.run; ⟨t, pw_and1 p, r⟩
theorem dw_or1 (h : DT X g E a ta) : DW X g E (.BoolOp .Or [a] pos) ta := let ⟨t, p, r⟩ := h.run; ⟨t, pw_or1 p, r⟩
theorem dw_and (ha : DT X g E a ta) (hb : DW X g E (.BoolOp .And (b :: rest) pos) tb) : DW X g E (.BoolOp .And (a :: b :: rest) pos) (tAndM ta tb) := by
  obtain ⟨t, p, r⟩ := ha.run
  obtain ⟨t2, p2, r2⟩ := hb.run
  refine ⟨_, pw_and p p2, fun σ H Q F S w R h => ?_⟩
  refine r σ H _ F S w R (PostG.imp (PostG.bind h) fun b w1 _ h1 H1 F1 x1 => ?_)
  cases b with
  | true => exact iteT (r2 σ H1 Q F1 S w1 (R.ext x1) (PostT.of x1 h1))
  | false => exact iteF (h1 H1 F1 x1)
theorem dw_or (ha : DT X g E a ta) (hb : DW X g E (.BoolOp .Or (b :: rest) pos) tb) : DW X g E (.BoolOp .Or (a :: b :: rest) pos) (tOrM ta tb) := by
  obtain ⟨t, p, r⟩ := ha.run
  obtain ⟨t2, p2, r2⟩ := hb.run
  refine ⟨_, pw_or p p2, fun σ H Q F S w R h => ?_⟩
  refine r σ H _ F S w R (PostG.imp (PostG.bind h) fun b w1 _ h1 H1 F1 x1 => ?_)
  cases b with
  | false => exact iteF (r2 σ H1 Q F1 S w1 (R.ext x1) (PostT.of x1 h1))
  | true => exact iteT (h1 H1 F1 x1)
theorem de_if (hc : DT X g E c ta) (ha : DE X g E a fa) (hb : DE X g E b fb) : DE X g E (.IfExp c a b pos) (eIf ta fa fb) := by
  obtain ⟨t, p, r⟩ := hc.run
  obtain ⟨t1, p1, r1⟩ := ha.run
  obtain ⟨t2, p2, r2⟩ := hb.run
  refine ⟨_, pe_ifExp p p1 p2, fun σ H Q F S w R h => ?_⟩
  refine r σ H _ F S w R (PostG.imp (PostG.bind h) fun b w1 _ h1 H1 F1 x1 => ?_)
  cases b with
  | true => exact iteT (r1 σ H1 Q F1 S w1 (R.ext x1) (Post.of x1 h1))
  | false => exact iteF (r2 σ H1 Q F1 S w1 (R.ext x1) (Post.of x1 h1))
theorem de_not (ha : DE X g E a fa) : DE X g E (.UnaryOp .Not a pos) (eNotM fa) := by
  obtain ⟨t, p, r⟩ := ha.run
  refine ⟨_, pe_not p, fun σ H Q F S w R h => ?_⟩
  exact dt_of r σ H (fun b H' => Q (.bl (!b)) H') F S w R (PostG.imp (PostG.bind h) fun b w1 _ h1 H1 F1 x1 => h1 _ H1 F1 x1 (.bl _))
theorem de_one {op : BoolOp} (ha : DE X g E a fa) : DE X g E (.BoolOp op [a] pos) fa := let ⟨t, p, r⟩ := ha.run; ⟨t, pe_one p, r⟩
theorem de_and (ha : DE X g E a fa) (hb : DE X g E (.BoolOp .And (b :: rest) pos) fb) : DE X g E (.BoolOp .And (a :: b :: rest) pos) (eAndM fa fb) := by
  obtain ⟨t, p, r⟩ := ha.run
  obtain ⟨t2, p2, r2⟩ := hb.run
  refine ⟨_, pe_and p p2, fun σ H Q F S w R h => ?_⟩
  refine dt_of r σ H (fun c H1 => if c = true then t2 σ H1 Q else Q (.bl false) H1) F S w R (PostG.imp (PostG.bind h) fun b w1 _ h1 H1 F1 x1 => ?_)
  cases b with
  | true => exact iteT (r2 σ H1 Q F1 S w1 (R.ext x1) (Post.of x1 h1))
  | false => exact iteF (h1 _ H1 F1 x1 (.bl _))
theorem de_or (ha : DE X g E a fa) (hb : DE X g E (.BoolOp .Or (b :: rest) pos) fb) : DE X g E (.BoolOp .Or (a :: b :: rest) pos) (eOrM fa fb) := by
  obtain ⟨t, p, r⟩ := ha.run
  obtain ⟨t2, p2, r2⟩ := hb.run
  refine ⟨_, pe_or p p2, fun σ H Q F S w R h => ?_⟩
  refine dt_of r σ H (fun c H1 => if c = true then Q (.bl true) H1 else t2 σ H1 Q) F S w R (PostG.imp (PostG.bind h) fun b w1 _ h1 H1 F1 x1 => ?_)
  cases b with
  | false => exact iteF (r2 σ H1 Q F1 S w1 (R.ext x1) (Post.of x1 h1))
  | true => exact iteT (h1 _ H1 F1 x1 (.bl _))
/-! ### arguments, displays -/
def aNil : AM := fun _ w => .ok [] w
def aCons (f : EM) (h : AM) : AM := fun S w => (f S w).bind fun d w1 => (h S w1).bind fun ds w2 => .ok (d :: ds) w2
variable {fs : AM}
theorem da_nil : DA X g E [] aNil := ⟨_, pa_nil, fun σ H Q F S w R h => h [] H F R.ex .nil⟩
theorem da_cons (ha : DE X g E e fa) (hr : DA X g E es fs) (hs : starEach (e :: es) X.env = (false, eval e X.env) :: starEach es X.env := by rfl) : DA X g E (e :: es) (aCons fa fs) := by
  obtain ⟨t, p, r⟩ := ha.run
  obtain ⟨t2, p2, r2⟩ := hr.run
  refine ⟨_, pa_cons p p2 hs, fun σ H Q F S w R h => ?_⟩
  refine r σ H _ F S w R (PostG.imp (PostG.bind h) fun d w1 _ h1 v H1 F1 x1 q1 => ?_)
  refine r2 σ H1 _ F1 S w1 (R.ext x1) (PostG.ext x1 (PostG.bind h1) fun ds w2 h2 vs H2 F2 x2 q2 => ?_)
  exact h2 (v :: vs) H2 F2 (x1.trans x2) (.cons (q1.mono x2.ff) q2)
def sizeN : Nat := 16777216
theorem sizeN_line : sizeN = sizeLine := rfl
def eTup (f : AM) : EM := fun S w => (f S w).bind fun ds w1 => if ds.length ≤ sizeN then .ok (.tup ds) w1 else .bad
def oLst (f : AM) : AM := fun S w => (f S w).bind fun ds w1 => if ds.length ≤ sizeN then .ok ds w1 else .bad
theorem de_tup {x1 : Nat} (h : DA X g E es fs) : DE X g E (.Tuple es x1 pos) (eTup fs) := by
  obtain ⟨t, p, r⟩ := h.run
  refine ⟨_, pe_tup p, fun σ H Q F S w R h => ?_⟩
  refine r σ H _ F S w R (PostG.imp (PostG.bind h) fun ds w1 _ h1 vs H1 F1 x1 q1 => ?_)
  by_cases hl : ds.length ≤ sizeN
  · rw [if_pos hl] at h1
    refine ⟨by rw [q1.length]; exact hl, fun p np => ?_⟩
    exact h1 _ _ _ (x1.trans (Ext.lay x1.sub x1.bx np)) (.tup (.inl (.inl upd_same)) (q1.mono (Ext.lay x1.sub x1.bx np).ff))
  · rw [if_neg hl] at h1; exact h1.elim
theorem do_lst (h : DA X g E es fs) : DO X g E (.List es pos) (oLst fs) := by
  obtain ⟨t, p, r⟩ := h.run
  refine ⟨_, pe_lst p, fun σ H Q F S w R h => ?_⟩
  refine r σ H _ F S w R (PostG.imp (PostG.bind h) fun ds w1 _ h1 vs H1 F1 x1 q1 => ?_)
  by_cases hl : ds.length ≤ sizeN
  · rw [if_pos hl] at h1
    refine ⟨by rw [q1.length]; exact hl, fun p np => ?_⟩
    exact h1 p vs _ F1 (x1.trans (Ext.own x1.sub x1.bx np)) (x1.fresh np) (free_of x1.sub x1.bx np) upd_same q1
  · rw [if_neg hl] at h1; exact h1.elim
/-- a new list that nobody will change -/
def eFrz (f : AM) : EM := fun S w => (f S w).bind fun ds w1 => .ok (.lst ds) w1
theorem DO.de (h : DO X g E e fs) : DE X g E e (eFrz fs) := by
  obtain ⟨t, p, r⟩ := h.run
  refine ⟨t, p, fun σ H Q F S w R h => ?_⟩
  refine r σ H _ F S w R (PostG.imp (PostG.bind h) fun ds w1 _ h1 p vs H1 F1 x1 np n1 hp q1 => ?_)
  have nb : p ≠ g.bx := fun e => by
    obtain ⟨c, h, _⟩ := R.bx.at_
    rw [e, h] at np; cases np
  have x2 := Ext.freeze x1 np n1 hp nb
  exact h1 (.ref p) H1 _ x2 (.lst upd_same (q1.mono (FSame.upd n1.1)))
end
end Y
namespace Y
open PySem PySem.Spec PyProof.Rows L2
/-! ### data as the library's own -/
mutual
def toPy : D → Option PyData
  | .non => some .none
  | .bl b => some (.bool b)
  | .int i => some (.int i)
  | .str s => some (.str s)
  | .lst ds => (toPys ds).map .list
  | .tup ds => (toPys ds).map .tuple
  | .box => none
  | .obj _ _ => none
  | .dct _ => none
  | .cel _ => none
def toPys : List D → Option (List PyData)
  | [] => some []
  | d :: ds => (toPy d).bind fun p => (toPys ds).bind fun ps => some (p :: ps)
end
mutual
theorem dp_of {g : G} {F : FH} {H : Hp} (s : Same F H) : ∀ {v : V} {d : D} {p : PyData}, DR g F v d → toPy d = some p → Dp g.K H v p
  | _, _, _, .non, e => by rw [toPy] at e; cases e; exact .non
  | _, _, _, .bl b, e => by rw [toPy] at e; cases e; exact .bl b
  | _, _, _, .int b, e => by rw [toPy] at e; cases e; exact .int b
  | _, _, _, .str b, e => by rw [toPy] at e; cases e; exact .str b
  | _, _, _, .lst (ds := ds) h r, e => by
    rw [toPy] at e
    obtain ⟨ps, e1, e2⟩ := Option.map_eq_some_iff.mp e
    subst e2
    exact .lst (.inl (.inl (s _ _ h))) (dps_of s r e1)
  | _, _, _, .tup (ds := ds) h r, e => by
    rw [toPy] at e
    obtain ⟨ps, e1, e2⟩ := Option.map_eq_some_iff.mp e
    subst e2
    exact .tup (same_T s h) (dps_of s r e1)
  | _, _, _, .box, e => by rw [toPy] at e; cases e
  | _, _, _, .obj _ _ _ _, e => by rw [toPy] at e; cases e
  | _, _, _, .dct _ _, e => by rw [toPy] at e; cases e
  | _, _, _, .cel _, e => by rw [toPy] at e; cases e
theorem dps_of {g : G} {F : FH} {H : Hp} (s : Same F H) : ∀ {v : List V} {d : List D} {p : List PyData}, DRs g F v d → toPys d = some p → DpAll g.K H v p
  | _, _, _, .nil, e => by rw [toPys] at e; cases e; exact .nil
  | _, _, _, .cons h r, e => by
    rw [toPys] at e
    obtain ⟨p, e1, e⟩ := Option.bind_eq_some_iff.mp e
    obtain ⟨ps, e2, e⟩ := Option.bind_eq_some_iff.mp e
    cases e
    exact .cons (dp_of s h e1) (dps_of s r e2)
end
def shp (d : D) : Option PyData := (toPy d).bind fun p => if SeqAt.shaped p then some p else none
theorem shp_some {d : D} {p : PyData} (h : shp d = some p) : toPy d = some p ∧ SeqAt.shaped p = true := by
  unfold shp at h
  obtain ⟨q, e1, e2⟩ := Option.bind_eq_some_iff.mp h
  by_cases hs : SeqAt.shaped q = true
  · rw [if_pos hs] at e2; cases e2; exact ⟨e1, hs⟩
  · rw [if_neg hs] at e2; cases e2

/-! ### operators on data -/
def mulS (x : Str) (n : Nat) : Str := ⟨(List.replicate n x.cps.toList).flatten.toArray⟩
def mAdd : D → D → Option D
  | .int i, .int j => some (.int (i + j))
  | .str x, .str y => if x.length + y.length ≤ sizeN then some (.str (x ++ y)) else none
  | .tup x, .tup y => if x.length + y.length ≤ sizeN then some (.tup (x ++ y)) else none
  | .lst x, .lst y => if x.length + y.length ≤ sizeN then some (.lst (x ++ y)) else none
  | _, _ => none
def mSub : D → D → Option D
  | .int i, .int j => some (.int (i - j))
  | _, _ => none
def mMul : D → D → Option D
  | .int i, .int j => if (-(2 ^ 64) < i ∧ i < 2 ^ 64) ∨ (-(2 ^ 64) < j ∧ j < 2 ^ 64) then some (.int (i * j)) else none
  | .str x, .int n => if 0 ≤ n ∧ n < 2 ^ 30 ∧ x.length * n.toNat ≤ sizeN then some (.str (mulS x n.toNat)) else none
  | .lst x, .int n => if 0 ≤ n ∧ n < 2 ^ 30 ∧ x.length * n.toNat ≤ sizeN then some (.lst (List.replicate n.toNat x).flatten) else none
  | _, _ => none
def mMod : D → D → Option D
  | .int i, .int j => if 0 < j then some (.int (i % j)) else none
  | _, _ => none
def mDiv : D → D → Option D
  | .int i, .int j => if 0 < j ∧ j < 1073741824 then some (.int (i / j)) else none
  | _, _ => none
def mPow : D → D → Option D
  | .int i, .int j => if 0 ≤ j ∧ j ≤ 1000000 ∧ i.natAbs < 2 ^ 64 then some (.int (i ^ j.toNat)) else none
  | _, _ => none
def mI (f : Int → Int → Bool) : D → D → Option D
  | .int i, .int j => some (.bl (f i j))
  | _, _ => none
def mLt : D → D → Option D
  | .int i, .int j => some (.bl (decide (i < j)))
  | .str x, .str y => some (.bl (decide (x.cps.toList < y.cps.toList)))
  | _, _ => none
def eqB : D → D → Option Bool
  | .int i, .int j => some (decide (i = j))
  | .str i, .str j => some (decide (i = j))
  | .bl i, .bl j => some (decide (i = j))
  | d, e => (shp d).bind fun p => (shp e).bind fun q => some (PyData.eqv p q)
def mEq (d e : D) : Option D := (eqB d e).map .bl
def mNe (d e : D) : Option D := (eqB d e).map fun b => .bl (!b)
def inB : D → D → Option Bool
  | .str x, .str y => match x.cps.toList with
    | [c] => some (decide (c ∈ y.cps.toList))
    | _ => some (!(Builtin.Str.occurrences y x 0 y.length 1).isEmpty)
  | d, .lst ds => (shp d).bind fun p => (shp (.lst ds)).bind fun q => match q with
    | .list ps => some (ps.any fun z => PyData.eqv z p)
    | _ => none
  | d, .tup ds => (shp d).bind fun p => (shp (.tup ds)).bind fun q => match q with
    | .tuple ps => some (ps.any fun z => PyData.eqv z p)
    | _ => none
  | _, _ => none
def mIn (d e : D) : Option D := (inB d e).map .bl
def mNotIn (d e : D) : Option D := (inB d e).map fun b => .bl (!b)
def isNon : D → Bool
  | .non => true
  | _ => false
def mIs : D → D → Option D
  | d, .non => some (.bl (isNon d))
  | _, _ => none
def mIsNot : D → D → Option D
  | d, .non => some (.bl (!isNon d))
  | _, _ => none
section
variable {X : Cx} {g : G}
theorem here {F : FH} {H : Hp} {w : Bx} {v : V} {d : D} {Q : VK} (s : Same F H) (b : BxOk g F w H) (r : DR g F v d) (q : ∀ v H' F', Ext g F H F' H' w → DR g F' v d → Q v H') : Q v H := q v H F (Ext.refl s b) r
theorem fresh_of {F : FH} {H : Hp} {p : Addr} (s : Same F H) (np : H p = none) : F p = none := by
  cases z : F p with
  | none => rfl
  | some o => rw [s p o z] at np; cases np
/-- the rule of a new list, of a new tuple -/
theorem lay_l {F : FH} {H : Hp} {w : Bx} {vs : List V} {ds : List D} {Q : VK} (s : Same F H) (b : BxOk g F w H) (r : DRs g F vs ds) (q : ∀ v H' F', Ext g F H F' H' w → DR g F' v (.lst ds) → Q v H') : ∀ p, H p = none → Q (.ref p) (upd H p (.lst vs)) := fun p np =>
  q _ _ _ (Ext.lay s b np) (.lst upd_same (r.mono (Ext.lay s b np).ff))
theorem lay_t {F : FH} {H : Hp} {w : Bx} {vs : List V} {ds : List D} {Q : VK} (s : Same F H) (b : BxOk g F w H) (r : DRs g F vs ds) (q : ∀ v H' F', Ext g F H F' H' w → DR g F' v (.tup ds) → Q v H') : ∀ p, H p = none → Q (.ref p) (upd H p (.tup vs)) := fun p np =>
  q _ _ _ (Ext.lay s b np) (.tup (.inl (.inl upd_same)) (r.mono (Ext.lay s b np).ff))
def rAdd4 (K : PySem.W.Frag) : R2 := fun x y H Q => (∃ i j, x = .int i ∧ y = .int j ∧ Q (.int (i + j)) H) ∨ (∃ i j, x = .str i ∧ y = .str j ∧ i.length + j.length ≤ sizeLine ∧ Q (.str (i ++ j)) H) ∨ rCatA K x y H Q ∨ rCat x y H Q
theorem op_addX : OpR X (binaryOp .Add) (rAdd4 X.K) := OpR.or op_add (OpR.or op_add_str (OpR.or op_catA op_cat))
theorem od_add (hK : g.K = X.K) : OpD g (rAdd4 X.K) mAdd := by
  intro F H w x y d e z Q s b rx ry hz q
  rw [← hK]
  cases rx with
  | int i =>
    cases ry with
    | int j => cases hz; exact .inl ⟨i, j, rfl, rfl, here s b (.int _) q⟩
    | _ => cases hz
  | str i =>
    cases ry with
    | str j =>
      unfold mAdd at hz
      by_cases hl : i.length + j.length ≤ sizeN
      · simp only [if_pos hl] at hz; cases hz; exact .inr (.inl ⟨i, j, rfl, rfl, hl, here s b (.str _) q⟩)
      · simp only [if_neg hl] at hz; cases hz
    | _ => cases hz
  | @tup a xs ds h r =>
    cases ry with
    | @tup a2 ys es h2 r2 =>
      unfold mAdd at hz
      by_cases hl : ds.length + es.length ≤ sizeN
      · simp only [if_pos hl] at hz; cases hz
        refine .inr (.inr (.inl ⟨_, _, xs, ys, rfl, rfl, same_T s h, same_T s h2, by rw [r.length, r2.length]; exact hl, fun e0 => ?_, fun _ e0 => ?_, fun _ _ => lay_t s b (r.append r2) q⟩))
        · subst e0; cases r; exact here s b (.tup h2 r2) q
        · subst e0; cases r2; rw [List.append_nil] at q; exact here s b (.tup h r) q
      · simp only [if_neg hl] at hz; cases hz
    | _ => cases hz
  | @lst a xs ds h r =>
    cases ry with
    | @lst a2 ys es h2 r2 =>
      unfold mAdd at hz
      by_cases hl : ds.length + es.length ≤ sizeN
      · simp only [if_pos hl] at hz; cases hz
        exact .inr (.inr (.inr ⟨_, _, xs, ys, rfl, rfl, s _ _ h, s _ _ h2, by rw [r.length, r2.length]; exact hl, lay_l s b (r.append r2) q⟩))
      · simp only [if_neg hl] at hz; cases hz
    | _ => cases hz
  | _ => cases hz
theorem od_I0 {f : Int → Int → Int} {m : D → D → Option D} (hm : ∀ d e z, m d e = some z → ∃ i j, d = .int i ∧ e = .int j ∧ z = .int (f i j)) : OpD g (rI0 fun i j => .int (f i j)) m := by
  intro F H w x y d e z Q s b rx ry hz q
  obtain ⟨i, j, rfl, rfl, rfl⟩ := hm d e z hz
  cases rx; cases ry
  exact ⟨i, j, rfl, rfl, here s b (.int _) q⟩
theorem od_I {C : Int → Int → Prop} {f : Int → Int → Int} {m : D → D → Option D} (hm : ∀ d e z, m d e = some z → ∃ i j, d = .int i ∧ e = .int j ∧ C i j ∧ z = .int (f i j)) : OpD g (rI C fun i j => .int (f i j)) m := by
  intro F H w x y d e z Q s b rx ry hz q
  obtain ⟨i, j, rfl, rfl, hc, rfl⟩ := hm d e z hz
  cases rx; cases ry
  exact ⟨i, j, rfl, rfl, hc, here s b (.int _) q⟩
theorem od_sub : OpD g (rI0 fun i j => .int (i - j)) mSub := od_I0 fun d e z h => by
  unfold mSub at h
  split at h
  · cases h; exact ⟨_, _, rfl, rfl, rfl⟩
  · cases h
theorem od_mod : OpD g (rI (fun _ j => 0 < j) fun i j => .int (i % j)) mMod := od_I fun d e z h => by
  unfold mMod at h
  split at h
  · split at h
    · cases h; exact ⟨_, _, rfl, rfl, by assumption, rfl⟩
    · cases h
  · cases h
theorem od_div : OpD g (rI CDiv fun i j => .int (i / j)) mDiv := od_I fun d e z h => by
  unfold mDiv at h
  split at h
  · split at h
    · cases h; exact ⟨_, _, rfl, rfl, by assumption, rfl⟩
    · cases h
  · cases h
theorem od_pow : OpD g (rI CPow fun i j => .int (i ^ j.toNat)) mPow := od_I fun d e z h => by
  unfold mPow at h
  split at h
  · split at h
    · cases h; exact ⟨_, _, rfl, rfl, by assumption, rfl⟩
    · cases h
  · cases h
/-! str * int -/
theorem foldl_app : ∀ (l : List (Array Nat)) (a : Array Nat), (l.foldl (· ++ ·) a).toList = a.toList ++ (l.map Array.toList).flatten
  | [], a => by simp
  | x :: l, a => by rw [List.foldl_cons, foldl_app l]; simp
theorem txt_mul (x : Str) (n : Int) (h : 0 ≤ n) : Txt.mul x n = mulS x n.toNat := by
  unfold Txt.mul mulS
  by_cases h1 : n < 1
  · rw [if_pos h1]
    have : n.toNat = 0 := by omega
    rw [this]; rfl
  · rw [if_neg h1]
    by_cases h2 : (n == 1 || x.length == 0) = true
    · rw [if_pos h2]
      obtain ⟨cs⟩ := x
      rcases Bool.or_eq_true_iff.mp h2 with h3 | h3
      · have : n = 1 := by simpa using h3
        subst this
        simp
      · have h4 : cs.size = 0 := by simpa [Str.length] using h3
        have h5 : cs = #[] := Array.size_eq_zero_iff.mp h4
        subst h5
        simp
    · rw [if_neg h2]
      congr 1
      apply Array.toList_inj.mp
      rw [foldl_app]
      simp
def rMulS : R2 := fun x y H Q => ∃ (i : Str) (n : Int), x = .str i ∧ y = .int n ∧ 0 ≤ n ∧ n < 2 ^ 30 ∧ i.length * n.toNat ≤ sizeLine ∧ Q (.str (mulS i n.toNat)) H
theorem op_mulS : OpR X (binaryOp .Mult) rMulS := by
  intro pins s σ H x y v u Q I rx ry h
  obtain ⟨i, n, rfl, rfl, h0, h1, hl, q⟩ := h
  obtain ⟨t, rfl⟩ := rx
  obtain ⟨t', rfl⟩ := ry
  refine SB.mul ⟨?_, fun hn _ => ?_, fun hn _ => ?_⟩ fun t' k => ⟨.str _, H, I.tok k, ⟨t', by rw [txt_mul i n h0]⟩, q⟩
  · rw [decide_eq_false (by omega), decide_eq_false (by omega)]; rfl
  · have hs : sizeLine = 16777216 := rfl
    rw [hs] at hl
    intro hc
    have h3 : (i.length : Int) ≤ 16777216 := by
      have : 1 ≤ n.toNat := by omega
      have : i.length * 1 ≤ i.length * n.toNat := Nat.mul_le_mul_left _ this
      omega
    have h4 : (2 ^ 63 - 1) / (2 ^ 30 : Int) ≤ (2 ^ 63 - 1) / n := by
      have hn0 : (0 : Int) < n := by omega
      rw [Int.le_ediv_iff_mul_le hn0]
      have : (2 ^ 63 - 1) / (2 ^ 30 : Int) = 8589934591 := by decide
      rw [this]
      omega
    have : (2 ^ 63 - 1) / (2 ^ 30 : Int) = 8589934591 := by decide
    omega
  · unfold Builtin.Str.tooLong
    have hs : sizeLine = 16777216 := rfl
    simp only [decide_eq_false_iff_not]
    omega
def rMul3 : R2 := fun x y H Q => rI CMul (fun i j => .int (i * j)) x y H Q ∨ rMulS x y H Q ∨ rRep x y H Q
theorem op_mulX : OpR X (binaryOp .Mult) rMul3 := OpR.or op_mul (OpR.or op_mulS op_rep)
theorem DRs.flat {g : G} {F : FH} {vs : List V} {ds : List D} (r : DRs g F vs ds) : ∀ n : Nat, DRs g F (List.replicate n vs).flatten (List.replicate n ds).flatten
  | 0 => .nil
  | n + 1 => by rw [List.replicate_succ, List.replicate_succ, List.flatten_cons, List.flatten_cons]; exact r.append (DRs.flat r n)
theorem od_mul : OpD g rMul3 mMul := by
  intro F H w x y d e z Q s b rx ry hz q
  cases rx with
  | int i =>
    cases ry with
    | int j =>
      unfold mMul at hz
      by_cases hl : (-(2 ^ 64) < i ∧ i < 2 ^ 64) ∨ (-(2 ^ 64) < j ∧ j < 2 ^ 64)
      · simp only [if_pos hl] at hz; cases hz; exact .inl ⟨i, j, rfl, rfl, hl, here s b (.int _) q⟩
      · simp only [if_neg hl] at hz; cases hz
    | _ => cases hz
  | str i =>
    cases ry with
    | int j =>
      unfold mMul at hz
      by_cases hl : 0 ≤ j ∧ j < 2 ^ 30 ∧ i.length * j.toNat ≤ sizeN
      · simp only [if_pos hl] at hz; cases hz; exact .inr (.inl ⟨i, j, rfl, rfl, hl.1, hl.2.1, hl.2.2, here s b (.str _) q⟩)
      · simp only [if_neg hl] at hz; cases hz
    | _ => cases hz
  | @lst a xs ds h r =>
    cases ry with
    | int j =>
      unfold mMul at hz
      by_cases hl : 0 ≤ j ∧ j < 2 ^ 30 ∧ ds.length * j.toNat ≤ sizeN
      · simp only [if_pos hl] at hz; cases hz
        exact .inr (.inr ⟨_, j, xs, rfl, rfl, s _ _ h, by omega, by omega, by rw [r.length]; exact hl.2.2, lay_l s b (r.flat _) q⟩)
      · simp only [if_neg hl] at hz; cases hz
    | _ => cases hz
  | _ => cases hz
/-! comparisons -/
theorem od_B0 {f : Int → Int → Bool} : OpD g (rI0 fun i j => .bl (f i j)) (mI f) := by
  intro F H w x y d e z Q s b rx ry hz q
  unfold mI at hz
  split at hz
  · cases hz; cases rx; cases ry; exact ⟨_, _, rfl, rfl, here s b (.bl _) q⟩
  · cases hz
def rLt2 : R2 := fun x y H Q => rI0 (fun i j => .bl (decide (i < j))) x y H Q ∨ (∃ i j, x = .str i ∧ y = .str j ∧ Q (.bl (decide (i.cps.toList < j.cps.toList))) H)
theorem op_ltX : OpR X (compareOp .Lt) rLt2 := OpR.or op_lt op_lt_str
theorem od_lt : OpD g rLt2 mLt := by
  intro F H w x y d e z Q s b rx ry hz q
  unfold mLt at hz
  split at hz
  · cases hz; cases rx; cases ry; exact .inl ⟨_, _, rfl, rfl, here s b (.bl _) q⟩
  · cases hz; cases rx; cases ry; exact .inr ⟨_, _, rfl, rfl, here s b (.bl _) q⟩
  · cases hz
def rEq2 (K : PySem.W.Frag) : R2 := fun x y H Q => rEq x y H Q ∨ rEqD K x y H Q
def rNe2 (K : PySem.W.Frag) : R2 := fun x y H Q => rNe x y H Q ∨ rNeD K x y H Q
theorem op_eqX (hu : X.A.units + 64 < cLine) : OpR X (compareOp .Eq) (rEq2 X.K) := OpR.or op_eq (op_eqD hu)
theorem op_neX (hu : X.A.units + 64 < cLine) : OpR X (compareOp .NotEq) (rNe2 X.K) := OpR.or op_ne (op_neD hu)
theorem eq_cases {F : FH} {H : Hp} {x y : V} {d e : D} {b : Bool} (s : Same F H) (rx : DR g F x d) (ry : DR g F y e) (h : eqB d e = some b) :
    (scal x y = true ∧ b = decide (x = y)) ∨ ∃ p q, Dp g.K H x p ∧ Dp g.K H y q ∧ SeqAt.shaped p = true ∧ SeqAt.shaped q = true ∧ b = PyData.eqv p q := by
  have gen : ∀ {d e : D}, DR g F x d → DR g F y e → ((shp d).bind fun p => (shp e).bind fun q => some (PyData.eqv p q)) = some b →
      ∃ p q, Dp g.K H x p ∧ Dp g.K H y q ∧ SeqAt.shaped p = true ∧ SeqAt.shaped q = true ∧ b = PyData.eqv p q := fun rx ry h => by
    obtain ⟨p, e1, h⟩ := Option.bind_eq_some_iff.mp h
    obtain ⟨q, e2, h⟩ := Option.bind_eq_some_iff.mp h
    cases h
    obtain ⟨a1, a2⟩ := shp_some e1
    obtain ⟨b1, b2⟩ := shp_some e2
    exact ⟨p, q, dp_of s rx a1, dp_of s ry b1, a2, b2, rfl⟩
  unfold eqB at h
  split at h
  · cases h; cases rx; cases ry; exact .inl ⟨rfl, by simp⟩
  · cases h; cases rx; cases ry; exact .inl ⟨rfl, by simp⟩
  · cases h; cases rx; cases ry; exact .inl ⟨rfl, by simp⟩
  · exact .inr (gen rx ry h)
theorem od_eq (hK : g.K = X.K) : OpD g (rEq2 X.K) mEq := by
  intro F H w x y d e z Q s b rx ry hz q
  rw [← hK]
  obtain ⟨k, e1, e2⟩ := Option.map_eq_some_iff.mp hz
  subst e2
  rcases eq_cases s rx ry e1 with ⟨h1, h2⟩ | ⟨p, r, h1, h2, h3, h4, h5⟩
  · subst h2; exact .inl ⟨h1, here s b (.bl _) q⟩
  · subst h5; exact .inr ⟨p, r, h1, h2, h3, h4, here s b (.bl _) q⟩
theorem od_ne (hK : g.K = X.K) : OpD g (rNe2 X.K) mNe := by
  intro F H w x y d e z Q s b rx ry hz q
  rw [← hK]
  obtain ⟨k, e1, e2⟩ := Option.map_eq_some_iff.mp hz
  subst e2
  rcases eq_cases s rx ry e1 with ⟨h1, h2⟩ | ⟨p, r, h1, h2, h3, h4, h5⟩
  · subst h2; exact .inl ⟨h1, here s b (.bl _) q⟩
  · subst h5; exact .inr ⟨p, r, h1, h2, h3, h4, here s b (.bl _) q⟩
/-! in -/
def rInT (K : PySem.W.Frag) (ng : Bool) : R2 := fun x y H Q => ∃ d ds, Dp K H x d ∧ Dp K H y (.tuple ds) ∧ SeqAt.shaped d = true ∧ SeqAt.shaped (.tuple ds) = true ∧ Q (.bl (if ng then !(ds.any fun z => PyData.eqv z d) else ds.any fun z => PyData.eqv z d)) H
theorem op_inT (hu : X.A.units + 65 < cLine) : OpR X (compareOp .In) (rInT X.K false) := by
  intro pins s σ H x y v u Q I rx ry h
  obtain ⟨d, ds, hd, he, sd, se, q⟩ := h
  obtain ⟨as, r1⟩ := Dp.reads I d x v hd rx
  obtain ⟨bs, r2⟩ := Dp.reads I (.tuple ds) y u he ry
  exact SeqAt.in_tuple_reads r2 r1 (SeqAt.canLay_of_shaped se) (SeqAt.canLay_of_shaped sd) (room_in_shaped sd hu) ⟨.bl _, H, I, rfl, q⟩
theorem op_notInT (hu : X.A.units + 65 < cLine) : OpR X (compareOp .NotIn) (rInT X.K true) := by
  intro pins s σ H x y v u Q I rx ry h
  obtain ⟨d, ds, hd, he, sd, se, q⟩ := h
  obtain ⟨as, r1⟩ := Dp.reads I d x v hd rx
  obtain ⟨bs, r2⟩ := Dp.reads I (.tuple ds) y u he ry
  exact SeqAt.notIn_tuple_reads r2 r1 (SeqAt.canLay_of_shaped se) (SeqAt.canLay_of_shaped sd) (room_in_shaped sd hu) ⟨.bl _, H, I, rfl, q⟩
def rIn4 (K : PySem.W.Frag) : R2 := fun x y H Q => (∃ (c : Nat) (z : Str), x = .str ⟨#[c]⟩ ∧ y = .str z ∧ Q (.bl (decide (c ∈ z.cps.toList))) H) ∨ (∃ i j, x = .str i ∧ y = .str j ∧ Q (.bl (!(Builtin.Str.occurrences j i 0 j.length 1).isEmpty)) H) ∨ rInD K x y H Q ∨ rInT K false x y H Q
theorem op_inX (hu : X.A.units + 65 < cLine) : OpR X (compareOp .In) (rIn4 X.K) := OpR.or op_in_sign (OpR.or op_in_str (OpR.or (op_inD hu) (op_inT hu)))
def rNotIn4 (K : PySem.W.Frag) : R2 := fun x y H Q => (∃ (c : Nat) (z : Str), x = .str ⟨#[c]⟩ ∧ y = .str z ∧ Q (.bl (!decide (c ∈ z.cps.toList))) H) ∨ (∃ i j, x = .str i ∧ y = .str j ∧ Q (.bl (!(!(Builtin.Str.occurrences j i 0 j.length 1).isEmpty))) H) ∨ rNotInD K x y H Q ∨ rInT K true x y H Q
theorem op_notInX (hu : X.A.units + 65 < cLine) : OpR X (compareOp .NotIn) (rNotIn4 X.K) := OpR.or op_notIn_sign (OpR.or op_notin_str (OpR.or (op_notInD hu) (op_notInT hu)))
theorem in_cases {F : FH} {H : Hp} {x y : V} {d e : D} {b : Bool} (s : Same F H) (rx : DR g F x d) (ry : DR g F y e) (h : inB d e = some b) :
    (∃ (c : Nat) (z : Str), x = .str ⟨#[c]⟩ ∧ y = .str z ∧ b = decide (c ∈ z.cps.toList)) ∨ (∃ i j, x = .str i ∧ y = .str j ∧ b = !(Builtin.Str.occurrences j i 0 j.length 1).isEmpty) ∨
    (∃ p ps, Dp g.K H x p ∧ Dp g.K H y (.list ps) ∧ SeqAt.shaped p = true ∧ SeqAt.shaped (.list ps) = true ∧ b = ps.any fun z => PyData.eqv z p) ∨
    (∃ p ps, Dp g.K H x p ∧ Dp g.K H y (.tuple ps) ∧ SeqAt.shaped p = true ∧ SeqAt.shaped (.tuple ps) = true ∧ b = ps.any fun z => PyData.eqv z p) := by
  unfold inB at h
  split at h
  · rename_i xs ys
    cases rx; cases ry
    split at h
    · rename_i c hc
      cases h
      refine .inl ⟨c, ys, ?_, rfl, rfl⟩
      have e : xs.cps = #[c] := by rw [← Array.toList_inj]; simpa using hc
      obtain ⟨cs⟩ := xs
      rw [show cs = #[c] from e]
    · cases h; exact .inr (.inl ⟨_, _, rfl, rfl, rfl⟩)
  · obtain ⟨p, e1, h⟩ := Option.bind_eq_some_iff.mp h
    obtain ⟨q, e2, h⟩ := Option.bind_eq_some_iff.mp h
    obtain ⟨a1, a2⟩ := shp_some e1
    obtain ⟨b1, b2⟩ := shp_some e2
    split at h
    · cases h; exact .inr (.inr (.inl ⟨p, _, dp_of s rx a1, dp_of s ry b1, a2, b2, rfl⟩))
    · cases h
  · obtain ⟨p, e1, h⟩ := Option.bind_eq_some_iff.mp h
    obtain ⟨q, e2, h⟩ := Option.bind_eq_some_iff.mp h
    obtain ⟨a1, a2⟩ := shp_some e1
    obtain ⟨b1, b2⟩ := shp_some e2
    split at h
    · cases h; exact .inr (.inr (.inr ⟨p, _, dp_of s rx a1, dp_of s ry b1, a2, b2, rfl⟩))
    · cases h
  · cases h
theorem od_in (hK : g.K = X.K) : OpD g (rIn4 X.K) mIn := by
  intro F H w x y d e z Q s b rx ry hz q
  rw [← hK]
  obtain ⟨k, e1, e2⟩ := Option.map_eq_some_iff.mp hz
  subst e2
  rcases in_cases s rx ry e1 with ⟨c, z, h1, h2, h3⟩ | ⟨i, j, h1, h2, h3⟩ | ⟨p, ps, h1, h2, h3, h4, h5⟩ | ⟨p, ps, h1, h2, h3, h4, h5⟩
  · subst h3; exact .inl ⟨c, z, h1, h2, here s b (.bl _) q⟩
  · subst h3; exact .inr (.inl ⟨i, j, h1, h2, here s b (.bl _) q⟩)
  · subst h5; exact .inr (.inr (.inl ⟨p, ps, h1, h2, h3, h4, here s b (.bl _) q⟩))
  · subst h5; exact .inr (.inr (.inr ⟨p, ps, h1, h2, h3, h4, here s b (.bl _) q⟩))
theorem od_notIn (hK : g.K = X.K) : OpD g (rNotIn4 X.K) mNotIn := by
  intro F H w x y d e z Q s b rx ry hz q
  rw [← hK]
  obtain ⟨k, e1, e2⟩ := Option.map_eq_some_iff.mp hz
  subst e2
  rcases in_cases s rx ry e1 with ⟨c, z, h1, h2, h3⟩ | ⟨i, j, h1, h2, h3⟩ | ⟨p, ps, h1, h2, h3, h4, h5⟩ | ⟨p, ps, h1, h2, h3, h4, h5⟩
  · subst h3; exact .inl ⟨c, z, h1, h2, here s b (.bl _) q⟩
  · subst h3; exact .inr (.inl ⟨i, j, h1, h2, here s b (.bl _) q⟩)
  · subst h5; exact .inr (.inr (.inl ⟨p, ps, h1, h2, h3, h4, here s b (.bl _) q⟩))
  · subst h5; exact .inr (.inr (.inr ⟨p, ps, h1, h2, h3, h4, here s b (.bl _) q⟩))
/-! is None -/
theorem isNon_dec {F : FH} {x : V} {d : D} (r : DR g F x d) : isNon d = decide (x = .non) := by
  cases r <;> simp [isNon]
theorem od_is : OpD g (fun x y H Q => y = .non ∧ Q (.bl (decide (x = .non))) H) mIs := by
  intro F H w x y d e z Q s b rx ry hz q
  unfold mIs at hz
  split at hz
  · cases hz; cases ry; rw [isNon_dec rx] at q; exact ⟨rfl, here s b (.bl _) q⟩
  · cases hz
theorem od_isNot : OpD g (fun x y H Q => y = .non ∧ Q (.bl (!decide (x = .non))) H) mIsNot := by
  intro F H w x y d e z Q s b rx ry hz q
  unfold mIsNot at hz
  split at hz
  · cases hz; cases ry; rw [isNon_dec rx] at q; exact ⟨rfl, here s b (.bl _) q⟩
  · cases hz
end
end Y
namespace Y
open PySem PySem.Spec PyProof.Rows L2
/-! ### subscripts -/
def mIx : D → D → Option D
  | .lst ds, .int i => atI ds i
  | .tup ds, .int i => atI ds i
  | .str z, .int i => if z.length ≤ sizeN then (atI z.cps.toList i).map fun c => .str ⟨#[c]⟩ else none
  | _, _ => none
theorem DRs.atI {g : G} {F : FH} {vs : List V} {ds : List D} {i : Int} {d : D} (r : DRs g F vs ds) (h : L2.atI ds i = some d) : ∃ v, L2.atI vs i = some v ∧ DR g F v d := by
  unfold L2.atI at h ⊢
  rw [r.length]
  cases e : ixN ds.length i with
  | none => rw [e] at h; cases h
  | some j => rw [e] at h; exact r.get h
section
variable {X : Cx} {g : G} {E : EK} {e a b c : Expr} {es : List Expr} {pos p p2 : Pos} {fa fb f : EM} {fs : AM} {lo hi : Option Expr} {x : Str} {id T : String}
theorem od_ix (hK : g.K = X.K) : OpD g (rIx X.K) mIx := by
  intro F H w x y d e z Q s b rx ry hz q
  rw [← hK]
  cases rx with
  | @lst a xs ds h r =>
    cases ry with
    | int j =>
      obtain ⟨v, e1, e2⟩ := r.atI (i := j) hz
      exact .inl ⟨_, xs, j, v, rfl, rfl, .inl (.inl (s _ _ h)), e1, here s b e2 q⟩
    | _ => cases hz
  | @tup a xs ds h r =>
    cases ry with
    | int j =>
      obtain ⟨v, e1, e2⟩ := r.atI (i := j) hz
      exact .inr (.inl ⟨_, xs, j, v, rfl, rfl, same_T s h, e1, here s b e2 q⟩)
    | _ => cases hz
  | str i =>
    cases ry with
    | int j =>
      unfold mIx at hz
      by_cases hl : i.length ≤ sizeN
      · simp only [if_pos hl] at hz
        obtain ⟨c, e1, e2⟩ := Option.map_eq_some_iff.mp hz
        subst e2
        exact .inr (.inr ⟨i, j, c, rfl, rfl, hl, e1, here s b (.str _) q⟩)
      · simp only [if_neg hl] at hz; cases hz
    | _ => cases hz
  | _ => cases hz
theorem de_ix (hK : g.K = X.K) (ha : DE X g E a fa) (hb : DE X g E b fb) (hs : PlainIx b := by exact fun _ _ => rfl) : DE X g E (.Subscript a b pos) (eBin mIx fa fb) := by
  obtain ⟨ta, pa, ra⟩ := ha.run
  obtain ⟨tb, pb, rb⟩ := hb.run
  exact ⟨_, pe_ix ix_seq pa pb hs, bin_run (od_ix hK) ra rb⟩
/-! ### slices -/
structure DP (X : Cx) (g : G) (E : EK) (e : Option Expr) (f : SL → Bx → R (Option Int)) : Prop where
  run : ∃ t, PO X e t ∧ ∀ σ H (Q : Option Int → Hp → Prop) F S w, Rel g F w S σ H → PostG g F H (E σ) (fun o w' => ∀ H' F', Ext g F H F' H' w' → Q o H') (f S w) → t σ H Q
def pNone : SL → Bx → R (Option Int) := fun _ w => .ok none w
def pSome (f : EM) : SL → Bx → R (Option Int) := fun S w => (f S w).bind fun d w1 => match d with
  | .int i => .ok (some i) w1
  | _ => .bad
theorem dp_none : DP X g E none pNone := ⟨_, po_none, fun σ H Q F S w R h => h H F R.ex⟩
theorem dp_some (h : DE X g E e f) : DP X g E (some e) (pSome f) := by
  obtain ⟨t, p, r⟩ := h.run
  refine ⟨_, po_some p, fun σ H Q F S w R h => ?_⟩
  refine r σ H _ F S w R (PostG.imp (PostG.bind h) fun d w1 _ h1 v H1 F1 x1 r1 => ?_)
  cases r1 with
  | int i => exact ⟨i, rfl, h1 H1 F1 x1⟩
  | _ => exact h1.elim
def cut {α : Type} (xs : List α) (lo hi : Option Int) : List α := (xs.drop (HT.sIx xs.length 0 lo)).take (HT.sIx xs.length xs.length hi - HT.sIx xs.length 0 lo)
def mSl : D → Option Int → Option Int → Option D
  | .lst ds, lo, hi => some (.lst (cut ds lo hi))
  | .tup ds, lo, hi => some (.tup (cut ds lo hi))
  | .str z, lo, hi => if z.length ≤ sizeN then some (.str (cutS z lo hi)) else none
  | _, _, _ => none
def eSl (f : EM) (l h : SL → Bx → R (Option Int)) : EM := fun S w => (f S w).bind fun d w1 => (l S w1).bind fun lo w2 => (h S w2).bind fun hi w3 => R.ofO (mSl d lo hi) w3
theorem DRs.cut {F : FH} {vs : List V} {ds : List D} (r : DRs g F vs ds) (lo hi : Option Int) : DRs g F (cutV vs lo hi) (Y.cut ds lo hi) := by
  unfold cutV Y.cut
  rw [r.length]
  exact (r.drop _).take _
theorem cut_all {α : Type} {xs : List α} {lo hi : Option Int} (h : HT.sIx xs.length 0 lo = 0 ∧ HT.sIx xs.length xs.length hi = xs.length) : cut xs lo hi = xs := by
  unfold cut
  rw [h.1, h.2]
  simp
def rSl3 (K : PySem.W.Frag) : V → Option Int → Option Int → Hp → VK → Prop := fun x lo hi H Q => rSlL K x lo hi H Q ∨ rSlA K x lo hi H Q ∨ rSlS x lo hi H Q
theorem sl_X : SlR X (rSl3 X.K) := SlR.or sl_list (SlR.or sl_tupA sl_str)
variable {fl fh : SL → Bx → R (Option Int)}
theorem de_slice (hK : g.K = X.K) (ha : DE X g E a fa) (hl : DP X g E lo fl) (hh : DP X g E hi fh) : DE X g E (.Subscript a (.Slice lo hi none p2) pos) (eSl fa fl fh) := by
  obtain ⟨ta, pa, ra⟩ := ha.run
  obtain ⟨tl, pl, rl⟩ := hl.run
  obtain ⟨th, ph, rh⟩ := hh.run
  refine ⟨_, pe_slice sl_X pa pl ph, fun σ H Q F S w R h => ?_⟩
  refine ra σ H _ F S w R (PostG.imp (PostG.bind h) fun d w1 _ h1 v H1 F1 x1 r1 => ?_)
  refine rl σ H1 _ F1 S w1 (R.ext x1) (PostG.ext x1 (PostG.bind h1) fun l w2 h2 H2 F2 x2 => ?_)
  have x12 := x1.trans x2
  refine rh σ H2 _ F2 S w2 (R.ext x12) (PostG.ext x12 (PostG.bind h2) fun u w3 h3 H3 F3 x3 => ?_)
  have x13 := x12.trans x3
  obtain ⟨z, hz, q⟩ := post_ofO h3
  have q' : ∀ v H' F', Ext g F3 H3 F' H' w3 → DR g F' v z → Q v H' := fun v' H' F' x4 r4 => q v' H' F' (x13.trans x4) r4
  have r3 := r1.mono (x2.trans x3).ff
  rw [← hK]
  cases r3 with
  | @lst a xs ds h r =>
    cases hz
    exact .inl ⟨_, xs, rfl, .inl (.inl (x3.sub _ _ h)), lay_l x3.sub x3.bx (r.cut l u) q'⟩
  | @tup a xs ds h r =>
    cases hz
    refine .inr (.inl ⟨_, xs, rfl, same_T x3.sub h, fun he => ?_, fun _ => lay_t x3.sub x3.bx (r.cut l u) q'⟩)
    rw [r.length] at he
    rw [cut_all he] at q'
    exact here x3.sub x3.bx (.tup h r) q'
  | str i =>
    unfold mSl at hz
    by_cases hl : i.length ≤ sizeN
    · simp only [if_pos hl] at hz; cases hz
      exact .inr (.inr ⟨i, rfl, hl, here x3.sub x3.bx (.str _) q'⟩)
    · simp only [if_neg hl] at hz; cases hz
  | _ => cases hz
/-! ### calls of built-ins -/
def CallD (g : G) (r : List V → Hp → VK → Prop) (m : List D → Option D) : Prop := ∀ (F : FH) (H : Hp) (w : Bx) (vs : List V) (ds : List D) (z : D) (Q : VK), Same F H → BxOk g F w H → DRs g F vs ds → m ds = some z →
  (∀ v H' F', Ext g F H F' H' w → DR g F' v z → Q v H') → r vs H Q
def CallO (g : G) (r : List V → Hp → VK → Prop) (m : List D → Option (List D)) : Prop := ∀ (F : FH) (H : Hp) (w : Bx) (vs : List V) (ds : List D) (z : List D) (Q : VK), Same F H → BxOk g F w H → DRs g F vs ds → m ds = some z →
  (∀ p us H' F', Ext g F H F' H' w → H p = none → F'.free p → H' p = some (.lst us) → DRs g F' us z → Q (.ref p) H') → r vs H Q
def eB (m : List D → Option D) (fs : AM) : EM := fun S w => (fs S w).bind fun ds w1 => R.ofO (m ds) w1
def oB (m : List D → Option (List D)) (fs : AM) : AM := fun S w => (fs S w).bind fun ds w1 => R.ofO (m ds) w1
variable {r : List V → Hp → VK → Prop} {m : List D → Option D} {mo : List D → Option (List D)}
theorem cb_run {ta : TA} (hm : CallD g r m) (ra : ∀ σ H Q F S w, Rel g F w S σ H → PostA g F H Q (E σ) (fs S w) → ta σ H Q) : ∀ σ H Q F S w, Rel g F w S σ H → Post g F H Q (E σ) (eB m fs S w) → tCB r ta σ H Q := by
  intro σ H Q F S w R h
  refine ra σ H _ F S w R (PostG.imp (PostG.bind h) fun ds w1 _ h1 vs H1 F1 x1 r1 => ?_)
  obtain ⟨z, hz, q⟩ := post_ofO h1
  exact hm F1 H1 w1 vs ds z Q x1.sub x1.bx r1 hz fun v' H' F' x2 r2 => q v' H' F' (x1.trans x2) r2
theorem co_run {ta : TA} (hm : CallO g r mo) (ra : ∀ σ H Q F S w, Rel g F w S σ H → PostA g F H Q (E σ) (fs S w) → ta σ H Q) : ∀ σ H Q F S w, Rel g F w S σ H → PostO g F H Q (E σ) (oB mo fs S w) → tCB r ta σ H Q := by
  intro σ H Q F S w R h
  refine ra σ H _ F S w R (PostG.imp (PostG.bind h) fun ds w1 _ h1 vs H1 F1 x1 r1 => ?_)
  obtain ⟨z, hz, q⟩ := post_ofO' h1
  exact hm F1 H1 w1 vs ds z Q x1.sub x1.bx r1 hz fun p us H' F' x2 n1 n2 hp r2 => q p us H' F' (x1.trans x2) (x1.fresh n1) n2 hp r2
theorem de_callB (hc : CallR X (.builtin id) r) (hd : CallD g r m) (hm : X.mg x = none) (hv : bootBuiltins x = some (.builtin id)) (ha : DA X g E (e :: es) fs) (hg : Gl X x := by rfl) (hn : x ≠ "__name__" := by decide) (hdb : (x == ("__debug__" : Str)) = false := by decide)
    (he : starEach (e :: es) X.env = (false, eval e X.env) :: starEach es X.env := by rfl) (hpl : (backTo pos (starEach es X.env)).any (·.1) = false := by rfl) : DE X g E (.Call (.Name x p) (e :: es) [] pos) (eB m fs) := by
  obtain ⟨ta, pa, ra⟩ := ha.run
  exact ⟨_, pe_callB hc hg hm hv pa hn hdb he hpl, cb_run hd ra⟩
theorem de_callTy (hc : CallR X (.type T) r) (hd : CallD g r m) (hm : X.mg x = none) (hv : bootBuiltins x = some (.type T)) (ha : DA X g E (e :: es) fs) (hg : Gl X x := by rfl) (hn : x ≠ "__name__" := by decide) (hdb : (x == ("__debug__" : Str)) = false := by decide)
    (he : starEach (e :: es) X.env = (false, eval e X.env) :: starEach es X.env := by rfl) (hpl : (backTo pos (starEach es X.env)).any (·.1) = false := by rfl) : DE X g E (.Call (.Name x p) (e :: es) [] pos) (eB m fs) := by
  obtain ⟨ta, pa, ra⟩ := ha.run
  exact ⟨_, pe_callTy hc hg hm hv pa hn hdb he hpl, cb_run hd ra⟩
theorem do_callTy (hc : CallR X (.type T) r) (hd : CallO g r mo) (hm : X.mg x = none) (hv : bootBuiltins x = some (.type T)) (ha : DA X g E (e :: es) fs) (hg : Gl X x := by rfl) (hn : x ≠ "__name__" := by decide) (hdb : (x == ("__debug__" : Str)) = false := by decide)
    (he : starEach (e :: es) X.env = (false, eval e X.env) :: starEach es X.env := by rfl) (hpl : (backTo pos (starEach es X.env)).any (·.1) = false := by rfl) : DO X g E (.Call (.Name x p) (e :: es) [] pos) (oB mo fs) := by
  obtain ⟨ta, pa, ra⟩ := ha.run
  exact ⟨_, pe_callTy hc hg hm hv pa hn hdb he hpl, co_run hd ra⟩
theorem drs1 {F : FH} {vs : List V} {d : D} (r : DRs g F vs [d]) : ∃ v, vs = [v] ∧ DR g F v d := by
  cases r with
  | cons h r => cases r; exact ⟨_, rfl, h⟩
theorem drs2 {F : FH} {vs : List V} {d e : D} (r : DRs g F vs [d, e]) : ∃ v u, vs = [v, u] ∧ DR g F v d ∧ DR g F u e := by
  cases r with
  | cons h r => obtain ⟨u, rfl, h2⟩ := drs1 r; exact ⟨_, u, rfl, h, h2⟩
/-! len -/
def mLen : List D → Option D
  | [.lst ds] => some (.int (ds.length : Int))
  | [.tup ds] => some (.int (ds.length : Int))
  | [.str z] => if z.length ≤ sizeN then some (.int (z.length : Int)) else none
  | _ => none
theorem cd_len (hK : g.K = X.K) : CallD g (fun xs H Q => ∃ x n, xs = [x] ∧ LenV X.K x H n ∧ Q (.int (n : Int)) H) mLen := by
  intro F H w vs ds z Q s b r hz q
  rw [← hK]
  unfold mLen at hz
  split at hz
  · cases hz
    obtain ⟨v, rfl, h⟩ := drs1 r
    cases h with
    | lst h r => exact ⟨_, _, rfl, .inl ⟨_, .inl (.inl (s _ _ h)), rfl⟩, by rw [r.length]; exact here s b (.int _) q⟩
  · cases hz
    obtain ⟨v, rfl, h⟩ := drs1 r
    cases h with
    | tup h r => exact ⟨_, _, rfl, .inr ⟨_, same_T s h, rfl⟩, by rw [r.length]; exact here s b (.int _) q⟩
  · rename_i y
    obtain ⟨v, rfl, h⟩ := drs1 r
    cases h
    by_cases hl : y.length ≤ sizeN
    · simp only [if_pos hl] at hz; cases hz; exact ⟨_, _, rfl, ⟨hl, rfl⟩, here s b (.int _) q⟩
    · simp only [if_neg hl] at hz; cases hz
  · cases hz
theorem de_len (hK : g.K = X.K) (hm : X.mg "len" = none) (ha : DA X g E (e :: es) fs) (hg : Gl X "len" := by rfl)
    (he : starEach (e :: es) X.env = (false, eval e X.env) :: starEach es X.env := by rfl) (hpl : (backTo pos (starEach es X.env)).any (·.1) = false := by rfl) : DE X g E (.Call (.Name "len" p) (e :: es) [] pos) (eB mLen fs) :=
  de_callB call_len (cd_len hK) hm PySem.boot_len ha hg (by decide) (by decide) he hpl
/-! all, any -/
def blsOf : List D → Option (List Bool)
  | [] => some []
  | .bl b :: ds => (blsOf ds).map (b :: ·)
  | _ => none
theorem bls_of {F : FH} : ∀ {vs : List V} {ds : List D} {bs : List Bool}, DRs g F vs ds → blsOf ds = some bs → vs = bs.map V.bl
  | _, _, _, .nil, h => by cases h; rfl
  | _, _, bs, .cons h r, e => by
    cases h with
    | bl b =>
      rw [blsOf] at e
      obtain ⟨cs, e1, e2⟩ := Option.map_eq_some_iff.mp e
      subst e2
      rw [bls_of r e1]; rfl
    | _ => cases e
def mAll : List D → Option D
  | [.lst ds] => (blsOf ds).map fun bs => .bl (bs.all _root_.id)
  | _ => none
def mAny : List D → Option D
  | [.lst ds] => (blsOf ds).map fun bs => .bl (bs.any _root_.id)
  | _ => none
theorem cd_all (hK : g.K = X.K) : CallD g (rAll X.K) mAll := by
  intro F H w vs ds z Q s b r hz q
  rw [← hK]
  unfold mAll at hz
  split at hz
  · obtain ⟨bs, e1, e2⟩ := Option.map_eq_some_iff.mp hz
    subst e2
    obtain ⟨v, rfl, h⟩ := drs1 r
    cases h with
    | lst h r =>
      have e := bls_of r e1
      subst e
      exact ⟨_, bs, rfl, .inl (.inl (s _ _ h)), here s b (.bl _) q⟩
  · cases hz
theorem cd_any (hK : g.K = X.K) : CallD g (rAny X.K) mAny := by
  intro F H w vs ds z Q s b r hz q
  rw [← hK]
  unfold mAny at hz
  split at hz
  · obtain ⟨bs, e1, e2⟩ := Option.map_eq_some_iff.mp hz
    subst e2
    obtain ⟨v, rfl, h⟩ := drs1 r
    cases h with
    | lst h r =>
      have e := bls_of r e1
      subst e
      exact ⟨_, bs, rfl, .inl (.inl (s _ _ h)), here s b (.bl _) q⟩
  · cases hz
theorem de_all (hK : g.K = X.K) (hcm : X.calm = true) (hm : X.mg "all" = none) (ha : DA X g E (e :: es) fs) (hg : Gl X "all" := by rfl)
    (he : starEach (e :: es) X.env = (false, eval e X.env) :: starEach es X.env := by rfl) (hpl : (backTo pos (starEach es X.env)).any (·.1) = false := by rfl) : DE X g E (.Call (.Name "all" p) (e :: es) [] pos) (eB mAll fs) :=
  de_callB (cr_all hcm) (cd_all hK) hm (by decide +kernel) ha hg (by decide) (by decide) he hpl
theorem de_any (hK : g.K = X.K) (hcm : X.calm = true) (hm : X.mg "any" = none) (ha : DA X g E (e :: es) fs) (hg : Gl X "any" := by rfl)
    (he : starEach (e :: es) X.env = (false, eval e X.env) :: starEach es X.env := by rfl) (hpl : (backTo pos (starEach es X.env)).any (·.1) = false := by rfl) : DE X g E (.Call (.Name "any" p) (e :: es) [] pos) (eB mAny fs) :=
  de_callB (cr_any hcm) (cd_any hK) hm (by decide +kernel) ha hg (by decide) (by decide) he hpl
/-! list, tuple, str, int -/
def mList : List D → Option (List D)
  | [.lst ds] => some ds
  | [.tup ds] => some ds
  | _ => none
theorem own_new {F : FH} {H : Hp} {w : Bx} {us : List V} {z : List D} {Q : VK} (s : Same F H) (b : BxOk g F w H) (r : DRs g F us z)
    (q : ∀ p us H' F', Ext g F H F' H' w → H p = none → F'.free p → H' p = some (.lst us) → DRs g F' us z → Q (.ref p) H') : ∀ p, H p = none → Q (.ref p) (upd H p (.lst us)) := fun p np =>
  q p us _ F (Ext.own s b np) np (free_of s b np) upd_same r
theorem co_list (hK : g.K = X.K) : CallO g (fun xs H Q => ∃ p ys, xs = [.ref p] ∧ (SqL X.K H p ys ∨ SqT X.K H p ys) ∧ ∀ l, H l = none → Q (.ref l) (upd H l (.lst ys))) mList := by
  intro F H w vs ds z Q s b r hz q
  rw [← hK]
  unfold mList at hz
  split at hz
  · cases hz
    obtain ⟨v, rfl, h⟩ := drs1 r
    cases h with
    | lst h r => exact ⟨_, _, rfl, .inl (.inl (.inl (s _ _ h))), own_new s b r q⟩
  · cases hz
    obtain ⟨v, rfl, h⟩ := drs1 r
    cases h with
    | tup h r => exact ⟨_, _, rfl, .inr (same_T s h), own_new s b r q⟩
  · cases hz
theorem do_list (hK : g.K = X.K) (hm : X.mg "list" = none) (ha : DA X g E (e :: es) fs) (hg : Gl X "list" := by rfl)
    (he : starEach (e :: es) X.env = (false, eval e X.env) :: starEach es X.env := by rfl) (hpl : (backTo pos (starEach es X.env)).any (·.1) = false := by rfl) : DO X g E (.Call (.Name "list" p) (e :: es) [] pos) (oB mList fs) :=
  do_callTy call_list_of (co_list hK) hm (by decide +kernel) ha hg (by decide) (by decide) he hpl
def mTuple : List D → Option D
  | [.lst ds] => some (.tup ds)
  | [.tup ds] => some (.tup ds)
  | _ => none
theorem cd_tuple (hK : g.K = X.K) : CallD g (fun xs H Q => ∃ p ys, xs = [.ref p] ∧ ((SqL X.K H p ys ∧ ∀ l, H l = none → Q (.ref l) (upd H l (.tup ys))) ∨ (SqT X.K H p ys ∧ Q (.ref p) H))) mTuple := by
  intro F H w vs ds z Q s b r hz q
  rw [← hK]
  unfold mTuple at hz
  split at hz
  · cases hz
    obtain ⟨v, rfl, h⟩ := drs1 r
    cases h with
    | lst h r => exact ⟨_, _, rfl, .inl ⟨.inl (.inl (s _ _ h)), lay_t s b r q⟩⟩
  · cases hz
    obtain ⟨v, rfl, h⟩ := drs1 r
    cases h with
    | tup h r => exact ⟨_, _, rfl, .inr ⟨same_T s h, here s b (.tup h r) q⟩⟩
  · cases hz
theorem de_tuple (hK : g.K = X.K) (hm : X.mg "tuple" = none) (ha : DA X g E (e :: es) fs) (hg : Gl X "tuple" := by rfl)
    (he : starEach (e :: es) X.env = (false, eval e X.env) :: starEach es X.env := by rfl) (hpl : (backTo pos (starEach es X.env)).any (·.1) = false := by rfl) : DE X g E (.Call (.Name "tuple" p) (e :: es) [] pos) (eB mTuple fs) :=
  de_callTy call_tuple_of (cd_tuple hK) hm (by decide +kernel) ha hg (by decide) (by decide) he hpl
def mStr : List D → Option D
  | [.int i] => if i.natAbs.log2 < 1920 then some (.str (toString i)) else none
  | _ => none
theorem cd_str : CallD g (fun xs H Q => ∃ i, xs = [.int i] ∧ i.natAbs.log2 < 1920 ∧ Q (.str (toString i)) H) mStr := by
  intro F H w vs ds z Q s b r hz q
  unfold mStr at hz
  split at hz
  · rename_i i
    obtain ⟨v, rfl, h⟩ := drs1 r
    cases h
    by_cases hl : i.natAbs.log2 < 1920
    · simp only [if_pos hl] at hz; cases hz; exact ⟨_, rfl, hl, here s b (.str _) q⟩
    · simp only [if_neg hl] at hz; cases hz
  · cases hz
theorem de_strI (hm : X.mg "str" = none) (ha : DA X g E (e :: es) fs) (hg : Gl X "str" := by rfl)
    (he : starEach (e :: es) X.env = (false, eval e X.env) :: starEach es X.env := by rfl) (hpl : (backTo pos (starEach es X.env)).any (·.1) = false := by rfl) : DE X g E (.Call (.Name "str" p) (e :: es) [] pos) (eB mStr fs) :=
  de_callTy call_str_int cd_str hm (by decide +kernel) ha hg (by decide) (by decide) he hpl
def mInt : List D → Option D
  | [.int i] => some (.int i)
  | [.bl b] => some (.int (if b then 1 else 0))
  | _ => none
theorem cd_int : CallD g (fun xs H Q => (∃ i, xs = [.int i] ∧ Q (.int i) H) ∨ ∃ k, xs = [.bl k] ∧ Q (.int (if k then 1 else 0)) H) mInt := by
  intro F H w vs ds z Q s b r hz q
  unfold mInt at hz
  split at hz
  · cases hz; obtain ⟨v, rfl, h⟩ := drs1 r; cases h; exact .inl ⟨_, rfl, here s b (.int _) q⟩
  · cases hz; obtain ⟨v, rfl, h⟩ := drs1 r; cases h; exact .inr ⟨_, rfl, here s b (.int _) q⟩
  · cases hz
theorem de_intI (hm : X.mg "int" = none) (ha : DA X g E (e :: es) fs) (hg : Gl X "int" := by rfl)
    (he : starEach (e :: es) X.env = (false, eval e X.env) :: starEach es X.env := by rfl) (hpl : (backTo pos (starEach es X.env)).any (·.1) = false := by rfl) : DE X g E (.Call (.Name "int" p) (e :: es) [] pos) (eB mInt fs) :=
  de_callTy call_int1 cd_int hm (by decide +kernel) ha hg (by decide) (by decide) he hpl
/-! isinstance of a built-in class -/
def tyN : D → Option String
  | .non => some "NoneType"
  | .bl _ => some "bool"
  | .int _ => some "int"
  | .str _ => some "str"
  | .lst _ => some "list"
  | .tup _ => some "tuple"
  | _ => none
def isSub (a T : String) : Bool := a == T || (a == "bool" && T == "int")
def mIsi (T : String) : D → Option D := fun d => (tyN d).map fun a => .bl (isSub a T)
def e1 (m : D → Option D) (f : EM) : EM := fun S w => (f S w).bind fun d w1 => R.ofO (m d) w1
theorem ty_of {F : FH} {H : Hp} {v : V} {d : D} {a : String} (s : Same F H) (r : DR g F v d) (h : tyN d = some a) : TyX g.K H v (.type a) := by
  cases r with
  | non => cases h; exact .base .non
  | bl b => cases h; exact .base (.bl b)
  | int b => cases h; exact .base (.int b)
  | str b => cases h; exact .base (.str b)
  | lst q r => cases h; exact .base (.lst (s _ _ q))
  | tup q r =>
    cases h
    rcases q with (q | ⟨o, q⟩) | ⟨o, its, n, q, c, _⟩
    · exact .base (.tup (s _ _ q))
    · exact .fTuple (s _ _ q)
    · exact .kTuple q c
  | _ => cases h
def kitOk (T : String) : Prop := ∀ a ∈ ["NoneType", "bool", "int", "str", "list", "tuple"], kitB a T = some (isSub a T)
theorem tyN_mem {d : D} {a : String} (h : tyN d = some a) : a ∈ ["NoneType", "bool", "int", "str", "list", "tuple"] := by
  cases d <;> simp [tyN] at h <;> subst h <;> simp
theorem kit_bool : kitOk "bool" := by unfold kitOk; decide +kernel
theorem kit_int : kitOk "int" := by unfold kitOk; decide +kernel
theorem kit_str : kitOk "str" := by unfold kitOk; decide +kernel
theorem kit_list : kitOk "list" := by unfold kitOk; decide +kernel
theorem kit_tuple : kitOk "tuple" := by unfold kitOk; decide +kernel
theorem de_isi {N : Str} {p3 : Pos} (hK : g.K = X.K) (kt : kitOk T) (hmN : X.mg N = none) (hvN : bootBuiltins N = some (.type T)) (hm : X.mg "isinstance" = none) (ha : DE X g E e f) (hgN : Gl X N := by rfl) (hg : Gl X "isinstance" := by rfl) (hnN : N ≠ "__name__" := by decide) (hdN : (N == ("__debug__" : Str)) = false := by decide)
    (he : starEach [e, .Name N p3] X.env = (false, eval e X.env) :: starEach [.Name N p3] X.env := by rfl) (he2 : starEach [.Name N p3] X.env = (false, eval (.Name N p3) X.env) :: starEach [] X.env := by rfl) (hpl : (backTo pos (starEach [.Name N p3] X.env)).any (·.1) = false := by rfl) :
    DE X g E (.Call (.Name "isinstance" p) [e, .Name N p3] [] pos) (e1 (mIsi T) f) := by
  obtain ⟨ta, pa, ra⟩ := ha.run
  refine ⟨_, pe_callB call_isi hg hm (by decide +kernel) (pa_cons pa (pa_cons (pe_bltn (v := .ty T) hgN hmN hvN rfl hnN hdN) pa_nil he2) he) (by decide) (by decide) he hpl, fun σ H Q F S w R h => ?_⟩
  refine ra σ H _ F S w R (PostG.imp (PostG.bind h) fun d w1 _ h1 v H1 F1 x1 r1 => ?_)
  obtain ⟨z, hz, q⟩ := post_ofO h1
  obtain ⟨a, e1, e2⟩ := Option.map_eq_some_iff.mp hz
  subst e2
  rw [← hK]
  exact ⟨v, .ty T, .type a, .type T, _, rfl, .ty T, ty_of x1.sub r1 e1, kit_ty (kt a (tyN_mem e1)), q _ H1 F1 x1 (.bl _)⟩
end
end Y
namespace Y
open PySem PySem.Spec PyProof.Rows L2
/-! ### calls of the program's own defs -/
/-- the promise of a def that does m -/
def spM (K : PySem.W.Frag) (cls : CT) (n : Nat) (m : List D → Bx → R D) : Sp := fun vs H Q E => vs.length = n ∧ ∃ (bx : BQ) (F : FH) (ds : List D) (w : Bx),
  Same F H ∧ BxOk ⟨K, cls, bx⟩ F w H ∧ DRs ⟨K, cls, bx⟩ F vs ds ∧ Post ⟨K, cls, bx⟩ F H Q E (m ds w)
structure Cal (P : Program) (w : World) (K : PySem.W.Frag) (mg : Str → Option Value) (base : Heap) (cls : CT) (x : Str) (k n : Nat) (m : List D → Bx → R D) : Prop where
  ex : ∃ (f : Addr) (fd : FuncData) (ps : List Str), FnOk P w K mg base (L2.CX P w) k f fd ps (spM K cls n m) ∧ mg x = some (.ref f) ∧ PySem.W.keepIn K (.ref f) = true ∧ Binds K fd ps []
def eCall (n : Nat) (m : List D → Bx → R D) (fs : AM) : EM := fun S w => (fs S w).bind fun ds w1 => if ds.length = n then m ds w1 else .bad
section
variable {X : Cx} {g : G} {E : EK} {e e2 a b c : Expr} {es : List Expr} {pos p p2 : Pos} {fa fb f : EM} {fs : AM} {x : Str} {k n : Nat} {m : List D → Bx → R D}
theorem call_run {E : XK} {ta : TA} (hK : g.K = X.K) (ra : ∀ σ H Q F S w, Rel g F w S σ H → PostA g F H Q E (fs S w) → ta σ H Q) : ∀ σ H Q F S w, Rel g F w S σ H → Post g F H Q E (eCall n m fs S w) → tCall (spM X.K g.cls n m) [] E ta σ H Q := by
  intro σ H Q F S w R h
  refine ra σ H _ F S w R (PostG.imp (PostG.bind h) fun ds w1 _ h1 vs H1 F1 x1 r1 => ?_)
  by_cases hl : ds.length = n
  · rw [if_pos hl] at h1
    show spM X.K g.cls n m (vs ++ []) H1 Q E
    rw [List.append_nil, ← hK]
    exact ⟨by rw [r1.length]; exact hl, g.bq, F1, ds, w1, x1.sub, x1.bx, r1, Post.of x1 h1⟩
  · rw [if_neg hl] at h1; exact h1.elim
theorem de_call {E : XK} (hK : g.K = X.K) (C : Cal X.prog X.w X.K X.mg X.base g.cls x k n m) (hr : Room k X.A) (hx : Passes (L2.CX X.prog X.w) X E) (ha : DA X g (kE E) (e :: es) fs) (hg : Gl X x := by rfl) (hdb : (x == ("__debug__" : Str)) = false := by decide)
    (he : starEach (e :: es) X.env = (false, eval e X.env) :: starEach es X.env := by rfl) (hpl : (backTo pos (starEach es X.env)).any (·.1) = false := by rfl) : DE X g (kE E) (.Call (.Name x p) (e :: es) [] pos) (eCall n m fs) := by
  obtain ⟨f, fd, ps, F, hm, hk, hb⟩ := C.ex
  obtain ⟨ta, pa, ra⟩ := ha.run
  exact ⟨_, pe_call F hr hg hm hk hb .nil hx pa hdb he hpl, call_run hK ra⟩
theorem de_call0 {E : XK} (hK : g.K = X.K) (C : Cal X.prog X.w X.K X.mg X.base g.cls x k n m) (hr : Room k X.A) (hx : Passes (L2.CX X.prog X.w) X E) (hg : Gl X x := by rfl) (hdb : (x == ("__debug__" : Str)) = false := by decide) : DE X g (kE E) (.Call (.Name x p) [] [] pos) (eCall n m aNil) := by
  obtain ⟨f, fd, ps, F, hm, hk, hb⟩ := C.ex
  exact ⟨_, pe_call0 F hr hg hm hk hb .nil hx hdb, call_run hK fun σ H Q F S w R h => h [] H F R.ex .nil⟩
/-! ### -n -/
def mNeg : D → Option D
  | .int i => some (.int (-i))
  | _ => none
theorem de_neg (ha : DE X g E a fa) : DE X g E (.UnaryOp .USub a pos) (e1 mNeg fa) := by
  obtain ⟨ta, pa, ra⟩ := ha.run
  refine ⟨_, pe_un un_neg pa, fun σ H Q F S w R h => ?_⟩
  refine ra σ H _ F S w R (PostG.imp (PostG.bind h) fun d w1 _ h1 v H1 F1 x1 r1 => ?_)
  obtain ⟨z, hz, q⟩ := post_ofO h1
  cases r1 with
  | int i => cases hz; exact ⟨i, rfl, q _ H1 F1 x1 (.int _)⟩
  | _ => cases hz
/-! ### methods of texts -/
def MtD (g : G) (r : V → List V → Hp → VK → Prop) (m : D → D → Option D) : Prop := ∀ (F : FH) (H : Hp) (w : Bx) (x y : V) (d e z : D) (Q : VK), Same F H → BxOk g F w H → DR g F x d → DR g F y e → m d e = some z →
  (∀ v H' F', Ext g F H F' H' w → DR g F' v z → Q v H') → r x [y] H Q
def isStr : D → Bool
  | .str _ => true
  | _ => false
/-- the receiver is looked at ahead of the argument -/
def eM1 (m : D → D → Option D) (fa fb : EM) : EM := fun S w => (fa S w).bind fun d w1 => if isStr d then (fb S w1).bind fun e w2 => R.ofO (m d e) w2 else .bad
theorem de_m1 {id : String} {name : Str} {apos : Pos} {r : V → List V → Hp → VK → Prop} {m : D → D → Option D} (slot : Slot "str" name id) (ty : typeOf (.builtin id) = pure (.type "method_descriptor")) (rule : MtR X id r) (hm : MtD g r m) (ha : DE X g E a fa) (hb : DE X g E b fb)
    (hs : starEach [b] X.env = [(false, eval b X.env)] := by rfl) (hbase : attributeBase a name X.env (eval a X.env) = eval a X.env := by rfl) (hline : (apos.endLine == pos.line) = true := by rfl) :
    DE X g E (.Call (.Attribute a name apos) [b] [] pos) (eM1 m fa fb) := by
  obtain ⟨ta, pa, ra⟩ := ha.run
  obtain ⟨tb, pb, rb⟩ := hb.run
  refine ⟨_, pe_m1 slot ty rule pa pb hs hbase hline, fun σ H Q F S w R h => ?_⟩
  refine ra σ H _ F S w R (PostG.imp (PostG.bind h) fun d w1 _ h1 v H1 F1 x1 r1 => ?_)
  by_cases hd : isStr d = true
  · rw [if_pos hd] at h1
    refine ⟨?_, rb σ H1 _ F1 S w1 (R.ext x1) (PostG.ext x1 (PostG.bind h1) fun e w2 h2 u H2 F2 x2 r2 => ?_)⟩
    · cases r1 with
      | str s => exact ⟨s, rfl⟩
      | _ => cases hd
    · obtain ⟨z, hz, q⟩ := post_ofO h2
      exact hm F2 H2 w2 v u d e z Q x2.sub x2.bx (r1.mono x2.ff) r2 hz fun v' H' F' x3 r3 => q v' H' F' ((x1.trans x2).trans x3) r3
  · rw [if_neg hd] at h1; exact h1.elim
def strsOf : List D → Option (List Str)
  | [] => some []
  | .str b :: ds => (strsOf ds).map (b :: ·)
  | _ => none
theorem strs_of {F : FH} : ∀ {vs : List V} {ds : List D} {bs : List Str}, DRs g F vs ds → strsOf ds = some bs → vs = bs.map V.str
  | _, _, _, .nil, h => by cases h; rfl
  | _, _, bs, .cons h r, e => by
    cases h with
    | str b =>
      rw [strsOf] at e
      obtain ⟨cs, e1, e2⟩ := Option.map_eq_some_iff.mp e
      subst e2
      rw [strs_of r e1]; rfl
    | _ => cases e
def joinS (sep : Str) (ys : List Str) : Option D := if (ys.map (·.length)).sum + ys.length * sep.length ≤ sizeN then some (.str (Txt.join sep ys)) else none
def mJoin : D → D → Option D
  | .str s, .lst ds => (strsOf ds).bind (joinS s)
  | .str s, .tup ds => (strsOf ds).bind (joinS s)
  | _, _ => none
theorem md_join (hK : g.K = X.K) : MtD g (fun x xs H Q => ∃ a p, ∃ ys : List Str, x = .str a ∧ xs = [.ref p] ∧ (SqL X.K H p (ys.map V.str) ∨ SqT X.K H p (ys.map V.str)) ∧
    (ys.map (·.length)).sum + ys.length * a.length ≤ 16777216 ∧ Q (.str (Txt.join a ys)) H) mJoin := by
  intro F H w x y d e z Q s b rx ry hz q
  rw [← hK]
  unfold mJoin at hz
  split at hz
  · obtain ⟨ys, e1, e2⟩ := Option.bind_eq_some_iff.mp hz
    unfold joinS at e2
    split at e2
    · rename_i hl
      cases e2; cases rx
      cases ry with
      | lst h r =>
        have e := strs_of r e1; subst e
        exact ⟨_, _, ys, rfl, rfl, .inl (.inl (.inl (s _ _ h))), hl, here s b (.str _) q⟩
    · cases e2
  · obtain ⟨ys, e1, e2⟩ := Option.bind_eq_some_iff.mp hz
    unfold joinS at e2
    split at e2
    · rename_i hl
      cases e2; cases rx
      cases ry with
      | tup h r =>
        have e := strs_of r e1; subst e
        exact ⟨_, _, ys, rfl, rfl, .inr (same_T s h), hl, here s b (.str _) q⟩
    · cases e2
  · cases hz
theorem de_join {apos : Pos} (hK : g.K = X.K) (ha : DE X g E a fa) (hb : DE X g E b fb) (hs : starEach [b] X.env = [(false, eval b X.env)] := by rfl) (hbase : attributeBase a "join" X.env (eval a X.env) = eval a X.env := by rfl) (hline : (apos.endLine == pos.line) = true := by rfl) :
    DE X g E (.Call (.Attribute a "join" apos) [b] [] pos) (eM1 mJoin fa fb) := de_m1 F.slot_str_join F.type_str_join mt_join (md_join hK) ha hb hs hbase hline
def mCount : D → D → Option D
  | .str a, .str b => some (.int (Txt.count a b))
  | _, _ => none
theorem md_count : MtD g (fun x xs H Q => ∃ a b, x = .str a ∧ xs = [.str b] ∧ Q (.int (Txt.count a b)) H) mCount := by
  intro F H w x y d e z Q s b rx ry hz q
  unfold mCount at hz
  split at hz
  · cases hz; cases rx; cases ry; exact ⟨_, _, rfl, rfl, here s b (.int _) q⟩
  · cases hz
theorem de_count {apos : Pos} (ha : DE X g E a fa) (hb : DE X g E b fb) (hs : starEach [b] X.env = [(false, eval b X.env)] := by rfl) (hbase : attributeBase a "count" X.env (eval a X.env) = eval a X.env := by rfl) (hline : (apos.endLine == pos.line) = true := by rfl) :
    DE X g E (.Call (.Attribute a "count" apos) [b] [] pos) (eM1 mCount fa fb) := de_m1 F.slot_str_count F.type_str_count mt_count md_count ha hb hs hbase hline
def mRstrip : D → D → Option D
  | .str a, .str b => if a.length ≤ sizeN then some (.str (Txt.rstripChars a b)) else none
  | _, _ => none
theorem md_rstrip : MtD g (fun x xs H Q => ∃ a b, x = .str a ∧ xs = [.str b] ∧ a.length ≤ sizeLine ∧ Q (.str (Txt.rstripChars a b)) H) mRstrip := by
  intro F H w x y d e z Q s b rx ry hz q
  unfold mRstrip at hz
  split at hz
  · split at hz
    · rename_i hl; cases hz; cases rx; cases ry; exact ⟨_, _, rfl, rfl, hl, here s b (.str _) q⟩
    · cases hz
  · cases hz
theorem de_rstrip {apos : Pos} (ha : DE X g E a fa) (hb : DE X g E b fb) (hs : starEach [b] X.env = [(false, eval b X.env)] := by rfl) (hbase : attributeBase a "rstrip" X.env (eval a X.env) = eval a X.env := by rfl) (hline : (apos.endLine == pos.line) = true := by rfl) :
    DE X g E (.Call (.Attribute a "rstrip" apos) [b] [] pos) (eM1 mRstrip fa fb) := de_m1 F.slot_str_rstrip F.type_str_rstrip mt_rstripChars md_rstrip ha hb hs hbase hline
def mSplit : D → D → Option D
  | .str a, .str b => if 0 < b.length ∧ a.length + 2 ≤ sizeN then some (.lst ((Txt.split a b).map .str)) else none
  | _, _ => none
theorem drs_strs {F : FH} : ∀ ys : List Str, DRs g F (ys.map V.str) (ys.map D.str)
  | [] => .nil
  | y :: ys => .cons (.str y) (drs_strs ys)
/-! ### what is walked -/
structure Yld (g : G) (F : FH) (J : It) (ds : List D) : Prop where
  go : ∀ (i : Nat) (d : D) (F2 : FH) (H2 : Hp), FSame F F2 → Same F2 H2 → ds[i]? = some d → J.go i H2 ∧ ∀ x H3, J.yld i H2 x H3 → (H3 = H2 ∧ DR g F2 x d) ∨ ∃ T xs es, x = .ref T ∧ H2 T = none ∧ H3 = upd H2 T (.tup xs) ∧ DRs g F2 xs es ∧ d = .tup es
  stop : ∀ (F2 : FH) (H2 : Hp), FSame F F2 → Same F2 H2 → J.stop ds.length H2
structure DI (X : Cx) (g : G) (E : EK) (tg iter : Expr) (f : AM) : Prop where
  run : ∃ wi, PI X tg iter wi ∧ ∀ σ H (Rq : It → Hp → Prop) F S w, Rel g F w S σ H → PostG g F H (E σ) (fun ds w' => ∀ J H' F', Ext g F H F' H' w' → Yld g F' J ds → Rq J H') (f S w) → wi σ H Rq
variable {tg : Expr}
theorem yld_list {F : FH} {a : Addr} {xs : List V} {ds : List D} (h : F a = some (.lst xs)) (r : DRs g F xs ds) : Yld g F (Itl g.K a) ds := by
  refine ⟨fun i d F2 H2 s1 s2 hd => ?_, fun F2 H2 s1 s2 => ⟨xs, .inl (.inl (s2 _ _ (s1.fz _ _ h))), by rw [r.length]; exact Nat.le_refl _⟩⟩
  obtain ⟨v, hv, rv⟩ := r.get hd
  have hs : SqL g.K H2 a xs := .inl (.inl (s2 _ _ (s1.fz _ _ h)))
  refine ⟨⟨xs, v, hs, hv⟩, fun x H3 hy => ?_⟩
  obtain ⟨e1, e2⟩ := hy
  have e3 := e2 xs hs
  rw [hv] at e3; cases e3
  exact .inl ⟨e1, rv.mono s1⟩
theorem yld_tup {F : FH} {a : Addr} {xs : List V} {ds : List D} (h : SqT g.K F a xs) (r : DRs g F xs ds) : Yld g F (Itt g.K a) ds := by
  refine ⟨fun i d F2 H2 s1 s2 hd => ?_, fun F2 H2 s1 s2 => ⟨xs, same_T s2 (same_T s1.fz h), by rw [r.length]; exact Nat.le_refl _⟩⟩
  obtain ⟨v, hv, rv⟩ := r.get hd
  have hs : SqT g.K H2 a xs := same_T s2 (same_T s1.fz h)
  refine ⟨⟨xs, v, hs, hv⟩, fun x H3 hy => ?_⟩
  obtain ⟨e1, e2⟩ := hy
  have e3 := e2 xs hs
  rw [hv] at e3; cases e3
  exact .inl ⟨e1, rv.mono s1⟩
def signs (z : Str) : List D := z.cps.toList.map fun c => .str ⟨#[c]⟩
theorem yld_str {F : FH} (z : Str) : Yld g F (Its z) (signs z) := by
  refine ⟨fun i d F2 H2 s1 s2 hd => ?_, fun F2 H2 s1 s2 => ?_⟩
  · unfold signs at hd
    rw [List.getElem?_map] at hd
    obtain ⟨c, hc, rfl⟩ := Option.map_eq_some_iff.mp hd
    have hc' : z.cps[i]? = some c := by simpa using hc
    refine ⟨(Array.getElem?_eq_some_iff.mp hc').1, fun x H3 hy => ?_⟩
    obtain ⟨e1, c2, e2, e3⟩ := hy
    rw [hc'] at e2; cases e2
    subst e3
    exact .inl ⟨e1, .str _⟩
  · show z.cps.size ≤ (signs z).length
    simp [signs]
/-- the items of a list, a tuple, a text -/
def itemsOf : D → Option (List D)
  | .lst ds => some ds
  | .tup ds => some ds
  | .str z => some (signs z)
  | _ => none
def iAny (f : EM) : AM := fun S w => (f S w).bind fun d w1 => R.ofO (itemsOf d) w1
theorem di_any (hK : g.K = X.K) (ha : DE X g E a fa) : DI X g E tg a (iAny fa) := by
  obtain ⟨ta, pa, ra⟩ := ha.run
  refine ⟨fun σ H Rq => ta σ H fun x H1 => (∃ a, x = .ref a ∧ (∃ xs, SqL X.K H1 a xs) ∧ Rq (Itl X.K a) H1) ∨ (∃ a, x = .ref a ∧ (∃ xs, SqT X.K H1 a xs) ∧ Rq (Itt X.K a) H1) ∨ (∃ z, x = .str z ∧ Rq (Its z) H1), ⟨fun pins s σ H Rq I h => ?_⟩, fun σ H Rq F S w R h => ?_⟩
  · refine thn (pa.run pins s σ H _ I h) fun v s1 ⟨x, H1, I1, r1, q1⟩ => ?_
    rcases q1 with ⟨a, e, ⟨xs, hq⟩, q⟩ | ⟨a, e, ⟨xs, hq⟩, q⟩ | ⟨z, e, q⟩
    · subst e; cases r1
      obtain ⟨_, _, p, _⟩ := I1.list hq
      exact wpAny_pyIter_list p.isList (pi_one (tk := s1.toks) I1 _ (turn_list a _) ⟨_, Heap.get?_push_size _ rfl, rfl, rfl⟩ q)
    · subst e; cases r1
      obtain ⟨_, _, p, _⟩ := I1.tuple hq
      exact wpAny_pyIter_tuple p (pi_one (tk := s1.toks) I1 _ (turn_tuple a _) ⟨_, Heap.get?_push_size _ rfl, rfl, rfl⟩ q)
    · subst e
      obtain ⟨t, rfl⟩ := r1
      cases ha : z.cps.all (· < 128)
      · exact wpAny_pyIter_wide ha (pi_one (tk := s1.toks) I1 _ (turn_str _ z t "str_iterator" (.inr rfl)) ⟨_, Heap.get?_push_size _ rfl, rfl, rfl⟩ q)
      · exact wpAny_pyIter_ascii ha (pi_one (tk := s1.toks) I1 _ (turn_str _ z t "str_ascii_iterator" (.inl rfl)) ⟨_, Heap.get?_push_size _ rfl, rfl, rfl⟩ q)
  · refine ra σ H _ F S w R (PostG.imp (PostG.bind h) fun d w1 _ h1 v H1 F1 x1 r1 => ?_)
    obtain ⟨ds, hz, q⟩ := post_ofO' h1
    rw [← hK]
    cases r1 with
    | lst h r => cases hz; exact .inl ⟨_, rfl, ⟨_, .inl (.inl (x1.sub _ _ h))⟩, q _ H1 F1 x1 (yld_list h r)⟩
    | tup h r => cases hz; exact .inr (.inl ⟨_, rfl, ⟨_, same_T x1.sub h⟩, q _ H1 F1 x1 (yld_tup h r)⟩)
    | str z => cases hz; exact .inr (.inr ⟨_, rfl, q _ H1 F1 x1 (yld_str z)⟩)
    | _ => cases hz
/-- range -/
def upFrom (lo : Int) (n : Nat) : List D := (List.range n).map fun (i : Nat) => D.int (lo + (i : Int))
theorem yld_range {F : FH} (lo : Int) (n : Nat) : Yld g F (Itr lo n) (upFrom lo n) := by
  refine ⟨fun i d F2 H2 s1 s2 hd => ?_, fun F2 H2 s1 s2 => ?_⟩
  · unfold upFrom at hd
    rw [List.getElem?_map] at hd
    obtain ⟨j, hj, rfl⟩ := Option.map_eq_some_iff.mp hd
    obtain ⟨h1, h2⟩ := List.getElem?_eq_some_iff.mp hj
    have : i < n := by simpa using h1
    have e : j = i := by rw [List.getElem_range] at h2; exact h2.symm
    subst e
    refine ⟨this, fun x H3 hy => ?_⟩
    obtain ⟨e1, e2⟩ := hy
    subst e2
    exact .inl ⟨e1, .int _⟩
  · show n ≤ (upFrom lo n).length
    simp [upFrom]
def rngOf : List D → Option (List D)
  | [.int j] => if -(2 ^ 62) ≤ j ∧ j < 2 ^ 62 then some (upFrom 0 j.toNat) else none
  | _ => none
def rngOf2 : List D → Option (List D)
  | [.int i, .int j] => if -(2 ^ 62) ≤ i ∧ i < 2 ^ 62 ∧ -(2 ^ 62) ≤ j ∧ j < 2 ^ 62 then some (upFrom i (j - i).toNat) else none
  | _ => none
def iBy (m : List D → Option (List D)) (fs : AM) : AM := fun S w => (fs S w).bind fun ds w1 => R.ofO (m ds) w1
theorem di_range (hm : X.mg "range" = none) (ha : DA X g E [a] fs) (hg : Gl X "range" := by rfl) (hs : starEach [a] X.env = [(false, eval a X.env)] := by rfl) : DI X g E tg (.Call (.Name "range" p) [a] [] pos) (iBy rngOf fs) := by
  obtain ⟨ta, pa, ra⟩ := ha.run
  refine ⟨_, pi_range1 hg hm pa hs, fun σ H Rq F S w R h => ?_⟩
  refine ra σ H _ F S w R (PostG.imp (PostG.bind h) fun ds w1 _ h1 vs H1 F1 x1 r1 => ?_)
  obtain ⟨zs, hz, q⟩ := post_ofO' h1
  unfold rngOf at hz
  split at hz
  · split at hz
    · rename_i hl
      cases hz
      obtain ⟨v, rfl, h⟩ := drs1 r1
      cases h
      exact ⟨_, rfl, hl.1, hl.2, q _ H1 F1 x1 (yld_range 0 _)⟩
    · cases hz
  · cases hz
theorem di_range2 (hm : X.mg "range" = none) (ha : DA X g E [a, b] fs) (hg : Gl X "range" := by rfl) (hs : starEach [a, b] X.env = [(false, eval a X.env), (false, eval b X.env)] := by rfl) (hs2 : starEach [b] X.env = [(false, eval b X.env)] := by rfl) : DI X g E tg (.Call (.Name "range" p) [a, b] [] pos) (iBy rngOf2 fs) := by
  obtain ⟨ta, pa, ra⟩ := ha.run
  refine ⟨_, pi_range2 hg hm pa hs hs2, fun σ H Rq F S w R h => ?_⟩
  refine ra σ H _ F S w R (PostG.imp (PostG.bind h) fun ds w1 _ h1 vs H1 F1 x1 r1 => ?_)
  obtain ⟨zs, hz, q⟩ := post_ofO' h1
  unfold rngOf2 at hz
  split at hz
  · split at hz
    · rename_i hl
      cases hz
      obtain ⟨v, u, rfl, h, h'⟩ := drs2 r1
      cases h; cases h'
      exact ⟨_, _, rfl, hl, q _ H1 F1 x1 (yld_range _ _)⟩
    · cases hz
  · cases hz
/-- zip of two lists, of two tuples -/
def zipD (ds es : List D) : List D := (ds.zip es).map fun p => .tup [p.1, p.2]
def zipOf : List D → Option (List D)
  | [.lst ds, .lst es] => some (zipD ds es)
  | [.tup ds, .tup es] => some (zipD ds es)
  | _ => none
theorem zip_get {ds es : List D} {i : Nat} {z : D} (h : (zipD ds es)[i]? = some z) : ∃ d e, ds[i]? = some d ∧ es[i]? = some e ∧ z = .tup [d, e] := by
  unfold zipD at h
  rw [List.getElem?_map] at h
  obtain ⟨q, hq, rfl⟩ := Option.map_eq_some_iff.mp h
  obtain ⟨d, e⟩ := q
  have := List.getElem?_zip_eq_some.mp hq
  exact ⟨d, e, this.1, this.2, rfl⟩
theorem yld_zip {F : FH} {a b : Addr} {xs ys : List V} {ds es : List D} (h : F a = some (.lst xs)) (r : DRs g F xs ds) (h2 : F b = some (.lst ys)) (r2 : DRs g F ys es) : Yld g F (Itz g.K a b) (zipD ds es) := by
  refine ⟨fun i z F2 H2 s1 s2 hd => ?_, fun F2 H2 s1 s2 => ⟨xs, ys, .inl (.inl (s2 _ _ (s1.fz _ _ h))), .inl (.inl (s2 _ _ (s1.fz _ _ h2))), ?_⟩⟩
  · obtain ⟨d, e, hd', he, rfl⟩ := zip_get hd
    obtain ⟨v, hv, rv⟩ := r.get hd'
    obtain ⟨u, hu, ru⟩ := r2.get he
    have hs : SqL g.K H2 a xs := .inl (.inl (s2 _ _ (s1.fz _ _ h)))
    have hs2 : SqL g.K H2 b ys := .inl (.inl (s2 _ _ (s1.fz _ _ h2)))
    refine ⟨⟨xs, ys, v, u, hs, hs2, hv, hu⟩, fun x H3 hy => ?_⟩
    obtain ⟨T, x1, x2, e1, n, e2, f1, f2⟩ := hy
    have e3 := f1 xs hs; rw [hv] at e3; cases e3
    have e4 := f2 ys hs2; rw [hu] at e4; cases e4
    exact .inr ⟨T, _, _, e1, n, e2, .cons (rv.mono s1) (.cons (ru.mono s1) .nil), rfl⟩
  · rw [r.length, r2.length]
    simp only [zipD, List.length_map, List.length_zip]
    omega
theorem yld_zipT {F : FH} {a b : Addr} {xs ys : List V} {ds es : List D} (h : SqT g.K F a xs) (r : DRs g F xs ds) (h2 : SqT g.K F b ys) (r2 : DRs g F ys es) : Yld g F (RZ.ItzT g.K a b) (zipD ds es) := by
  refine ⟨fun i z F2 H2 s1 s2 hd => ?_, fun F2 H2 s1 s2 => ⟨xs, ys, same_T s2 (same_T s1.fz h), same_T s2 (same_T s1.fz h2), ?_⟩⟩
  · obtain ⟨d, e, hd', he, rfl⟩ := zip_get hd
    obtain ⟨v, hv, rv⟩ := r.get hd'
    obtain ⟨u, hu, ru⟩ := r2.get he
    have hs : SqT g.K H2 a xs := same_T s2 (same_T s1.fz h)
    have hs2 : SqT g.K H2 b ys := same_T s2 (same_T s1.fz h2)
    refine ⟨⟨xs, ys, v, u, hs, hs2, hv, hu⟩, fun x H3 hy => ?_⟩
    obtain ⟨T, x1, x2, e1, n, e2, f1, f2⟩ := hy
    have e3 := f1 xs hs; rw [hv] at e3; cases e3
    have e4 := f2 ys hs2; rw [hu] at e4; cases e4
    exact .inr ⟨T, _, _, e1, n, e2, .cons (rv.mono s1) (.cons (ru.mono s1) .nil), rfl⟩
  · rw [r.length, r2.length]
    simp only [zipD, List.length_map, List.length_zip]
    omega
theorem di_zip {elts : List Expr} {kk : Nat} {tpos : Pos} (hK : g.K = X.K) (hm : X.mg "zip" = none) (ha : DA X g E [a, b] fs) (hg : Gl X "zip" := by rfl)
    (hs : starEach [a, b] X.env = (false, eval a X.env) :: starEach [b] X.env := by rfl) (hpl : (backTo pos (starEach [b] X.env)).any (·.1) = false := by rfl) : DI X g E (.Tuple elts kk tpos) (.Call (.Name "zip" p) [a, b] [] pos) (iBy zipOf fs) := by
  obtain ⟨ta, pa, ra⟩ := ha.run
  refine ⟨_, RZ.pi_zipA hg hm pa hs hpl, fun σ H Rq F S w R h => ?_⟩
  refine ra σ H _ F S w R (PostG.imp (PostG.bind h) fun ds w1 _ h1 vs H1 F1 x1 r1 => ?_)
  obtain ⟨zs, hz, q⟩ := post_ofO' h1
  rw [← hK]
  unfold zipOf at hz
  split at hz
  · cases hz
    obtain ⟨v, u, rfl, h, h'⟩ := drs2 r1
    cases h with
    | lst h r =>
      cases h' with
      | lst h2 r2 => exact ⟨_, _, _, _, rfl, .inl ⟨.inl (.inl (x1.sub _ _ h)), .inl (.inl (x1.sub _ _ h2)), q _ H1 F1 x1 (yld_zip h r h2 r2)⟩⟩
  · cases hz
    obtain ⟨v, u, rfl, h, h'⟩ := drs2 r1
    cases h with
    | tup h r =>
      cases h' with
      | tup h2 r2 => exact ⟨_, _, _, _, rfl, .inr ⟨same_T x1.sub h, same_T x1.sub h2, q _ H1 F1 x1 (yld_zipT h r h2 r2)⟩⟩
  · cases hz
/-- enumerate of a list -/
def numbered (ds : List D) : List D := (List.range ds.length).zip ds |>.map fun p => .tup [.int (p.1 : Int), p.2]
theorem num_get {ds : List D} {i : Nat} {z : D} (h : (numbered ds)[i]? = some z) : ∃ d, ds[i]? = some d ∧ z = .tup [.int (i : Int), d] := by
  unfold numbered at h
  rw [List.getElem?_map] at h
  obtain ⟨q, hq, rfl⟩ := Option.map_eq_some_iff.mp h
  obtain ⟨j, e⟩ := q
  have := List.getElem?_zip_eq_some.mp hq
  obtain ⟨h1, h2⟩ := List.getElem?_eq_some_iff.mp this.1
  rw [List.getElem_range] at h2
  have h2 : i = j := h2
  subst h2
  exact ⟨e, this.2, rfl⟩
theorem num_len (ds : List D) : (numbered ds).length = ds.length := by simp [numbered]
theorem yld_enum {F : FH} {a : Addr} {xs : List V} {ds : List D} (h : F a = some (.lst xs)) (r : DRs g F xs ds) : Yld g F (Ite g.K a) (numbered ds) := by
  refine ⟨fun i z F2 H2 s1 s2 hd => ?_, fun F2 H2 s1 s2 => ⟨xs, .inl (.inl (s2 _ _ (s1.fz _ _ h))), by rw [r.length, num_len]; exact Nat.le_refl _⟩⟩
  obtain ⟨d, hd', rfl⟩ := num_get hd
  obtain ⟨v, hv, rv⟩ := r.get hd'
  have hs : SqL g.K H2 a xs := .inl (.inl (s2 _ _ (s1.fz _ _ h)))
  refine ⟨⟨xs, v, hs, hv⟩, fun x H3 hy => ?_⟩
  obtain ⟨T, x1, e1, n, e2, f1⟩ := hy
  have e3 := f1 xs hs; rw [hv] at e3; cases e3
  exact .inr ⟨T, _, _, e1, n, e2, .cons (.int _) (.cons (rv.mono s1) .nil), rfl⟩
end
end Y
namespace Y
open PySem PySem.Spec PyProof.Rows L2
/-! ### the readings by meaning: one for all states -/
section
variable {X : Cx} {g : G} {E : EK} {e a b c : Expr} {es : List Expr} {pos p p2 : Pos} {fa fb f : EM} {fs : AM}
def tSem (g : G) (E : EK) (f : EM) : TE := fun σ H Q => ∃ F S w, Rel g F w S σ H ∧ Post g F H Q (E σ) (f S w)
def tSemT (g : G) (E : EK) (f : TM) : TT := fun σ H Q => ∃ F S w, Rel g F w S σ H ∧ PostT g F H Q (E σ) (f S w)
theorem DE.pe (h : DE X g E e f) : PE X e (tSem g E f) := by
  obtain ⟨t, p, r⟩ := h.run
  exact ⟨fun pins s σ H Q I ⟨F, S, w, R, q⟩ => p.run pins s σ H Q I (r σ H Q F S w R q)⟩
theorem DT.pt {f : TM} (h : DT X g E e f) : PT X e (tSemT g E f) := by
  obtain ⟨t, p, r⟩ := h.run
  exact ⟨fun pins s σ H Q I ⟨F, S, w, R, q⟩ => p.run pins s σ H Q I (r σ H Q F S w R q)⟩

/-! ### slots set, wiped -/
theorem Rel.set {F : FH} {H : Hp} {w : Bx} {S : SL} {σ : L2.St} {v : V} {d : D} (R : Rel g F w S σ H) (i : Nat) (r : DR g F v d) : Rel g F w (S.set i (some (.dat d))) (σ.set i (some v)) H := by
  refine ⟨R.sub, R.bx, by rw [List.length_set, List.length_set]; exact R.len, fun j s hs => ?_, fun j k ds ds2 u h1 h2 h3 h4 => ?_⟩
  · rw [List.getElem?_set] at hs ⊢
    by_cases e : i = j
    · rw [if_pos e] at hs ⊢
      by_cases hl : j < S.length
      · rw [if_pos (e ▸ hl)] at hs; cases hs
        rw [if_pos (by rw [e, ← R.len]; exact hl)]
        exact ⟨v, rfl, r⟩
      · rw [if_neg (e ▸ hl)] at hs; cases hs
    · rw [if_neg e] at hs ⊢; exact R.sl j s hs
  · rw [List.getElem?_set] at h1 h2 h3 h4
    by_cases e : i = j
    · rw [if_pos e] at h1; split at h1 <;> cases h1
    · by_cases e2 : i = k
      · rw [if_pos e2] at h2; split at h2 <;> cases h2
      · rw [if_neg e] at h1 h3; rw [if_neg e2] at h2 h4; exact R.inj j k ds ds2 u h1 h2 h3 h4
def wipeS (S : SL) : List Nat → SL
  | [] => S
  | v :: vs => (wipeS S vs).set v none
theorem wipe_get (σ : L2.St) (j : Nat) : ∀ vs : List Nat, (wipe σ vs)[j]? = if j ∈ vs then (if j < σ.length then some none else none) else σ[j]?
  | [] => by simp [wipe]
  | v :: vs => by
    unfold wipe
    rw [List.getElem?_set, wipe_length, wipe_get σ j vs]
    by_cases e : v = j
    · subst e; simp
    · have : (j ∈ v :: vs) ↔ j ∈ vs := by simp [Ne.symm e]
      rw [if_neg e]
      by_cases h : j ∈ vs
      · rw [if_pos h, if_pos (this.mpr h)]
      · rw [if_neg h, if_neg (fun z => h (this.mp z))]
theorem wipeS_length (S : SL) : ∀ vs : List Nat, (wipeS S vs).length = S.length
  | [] => rfl
  | v :: vs => by unfold wipeS; rw [List.length_set, wipeS_length S vs]
theorem wipeS_get (σ : SL) (j : Nat) : ∀ vs : List Nat, (wipeS σ vs)[j]? = if j ∈ vs then (if j < σ.length then some none else none) else σ[j]?
  | [] => by simp [wipeS]
  | v :: vs => by
    unfold wipeS
    rw [List.getElem?_set, wipeS_length, wipeS_get σ j vs]
    by_cases e : v = j
    · subst e; simp
    · have : (j ∈ v :: vs) ↔ j ∈ vs := by simp [Ne.symm e]
      rw [if_neg e]
      by_cases h : j ∈ vs
      · rw [if_pos h, if_pos (this.mpr h)]
      · rw [if_neg h, if_neg (fun z => h (this.mp z))]
theorem wipe_set {σ : L2.St} {i : Nat} {x : Option V} {vs : List Nat} (h : i ∈ vs) : wipe (σ.set i x) vs = wipe σ vs := by
  apply List.ext_getElem?
  intro j
  rw [wipe_get, wipe_get, List.length_set, List.getElem?_set]
  by_cases hj : j ∈ vs
  · rw [if_pos hj, if_pos hj]
  · rw [if_neg hj, if_neg hj, if_neg (fun (e : i = j) => hj (e ▸ h))]
theorem Rel.wipe {F : FH} {H : Hp} {w : Bx} {S : SL} {σ : L2.St} (R : Rel g F w S σ H) (vs : List Nat) : Rel g F w (wipeS S vs) (L2.wipe σ vs) H := by
  refine ⟨R.sub, R.bx, by rw [wipeS_length, wipe_length]; exact R.len, fun j s hs => ?_, fun j k ds ds2 u h1 h2 h3 h4 => ?_⟩
  · rw [wipeS_get] at hs
    rw [wipe_get]
    by_cases hj : j ∈ vs
    · rw [if_pos hj] at hs; split at hs <;> cases hs
    · rw [if_neg hj] at hs ⊢; exact R.sl j s hs
  · rw [wipeS_get] at h1 h2
    rw [wipe_get] at h3 h4
    by_cases hj : j ∈ vs
    · rw [if_pos hj] at h1; split at h1 <;> cases h1
    · by_cases hk : k ∈ vs
      · rw [if_pos hk] at h2; split at h2 <;> cases h2
      · rw [if_neg hj] at h1 h3; rw [if_neg hk] at h2 h4; exact R.inj j k ds ds2 u h1 h2 h3 h4

/-! ### targets -/
abbrev GM := D → SL → Option SL
abbrev GMs := List D → SL → Option SL
/-- is: the slots that are set -/
structure DG (X : Cx) (g : G) (tg : Expr) (ns : List Nat) (m : GM) : Prop where
  run : ∃ t, PG X tg t ∧ ∀ v σ H Q F S w d S', Rel g F w S σ H → DR g F v d → m d S = some S' → (∀ σ', Rel g F w S' σ' H → (∀ vs, (∀ i ∈ ns, i ∈ vs) → L2.wipe σ' vs = L2.wipe σ vs) → Q σ' H) → t v σ H Q
  own : ∀ d S S' (i : Nat) ds, m d S = some S' → S'[i]? = some (some (.own ds)) → S[i]? = some (some (.own ds)) ∧ i ∉ ns
structure DGs (X : Cx) (g : G) (tgs : List Expr) (ns : List Nat) (m : GMs) : Prop where
  run : ∃ t, PGs X tgs t ∧ ∀ vs σ H Q F S w ds S', Rel g F w S σ H → DRs g F vs ds → m ds S = some S' → (∀ σ', Rel g F w S' σ' H → (∀ us, (∀ i ∈ ns, i ∈ us) → L2.wipe σ' us = L2.wipe σ us) → Q σ' H) → t vs σ H Q
  own : ∀ es S S' (i : Nat) ds, m es S = some S' → S'[i]? = some (some (.own ds)) → S[i]? = some (some (.own ds)) ∧ i ∉ ns
def gSet (i : Nat) : GM := fun d S => some (S.set i (some (.dat d)))
def gsNil : GMs := fun ds S => match ds with
  | [] => some S
  | _ => none
def gsCons (m : GM) (k : GMs) : GMs := fun ds S => match ds with
  | d :: r => (m d S).bind (k r)
  | [] => none
def gTupM (k : GMs) : GM := fun d S => match d with
  | .tup ds => k ds S
  | _ => none
theorem dg_name (i : Nat) {x : Str} (hN : X.N.Nodup) (hi : X.N[i]? = some x := by rfl) (hx : Loc X.env.scope x := by first | exact Or.inl rfl | exact Or.inr rfl) (hf : X.fn x = true ∨ X.env.scope.names.lookup x = some .local := by first | exact .inl rfl | exact .inr rfl) : DG X g (.Name x pos) [i] (gSet i) := by
  refine ⟨⟨_, pg_name hN hi hx hf, fun v σ H Q F S w d S' R r hm q => ?_⟩, fun d S S' j ds hm hj => ?_⟩
  · cases hm
    exact q _ (R.set i r) fun vs hv => wipe_set (hv i (List.mem_singleton.mpr rfl))
  · cases hm
    rw [List.getElem?_set] at hj
    by_cases e : i = j
    · rw [if_pos e] at hj; split at hj <;> cases hj
    · rw [if_neg e] at hj; exact ⟨hj, fun z => e (List.mem_singleton.mp z).symm⟩
theorem dgs_nil : DGs X g [] [] gsNil := by
  refine ⟨⟨_, pgs_nil, fun vs σ H Q F S w ds S' R r hm q => ?_⟩, fun es S S' i ds hm hj => ?_⟩
  · cases r with
    | nil => cases hm; exact ⟨rfl, q σ R fun _ _ => rfl⟩
    | cons _ _ => cases hm
  · cases es with
    | nil => cases hm; exact ⟨hj, fun z => nomatch z⟩
    | cons _ _ => cases hm
theorem dgs_cons {tgs : List Expr} {ns ns2 : List Nat} {m : GM} {k : GMs} (h1 : DG X g e ns m) (h2 : DGs X g tgs ns2 k) (hq : ∀ (t : TG) (u : TGs), PG X e t → PGs X tgs u → PGs X (e :: tgs) (gCons t u) := by exact fun _ _ a b => pgs_cons a b) : DGs X g (e :: tgs) (ns ++ ns2) (gsCons m k) := by
  obtain ⟨t, p, r⟩ := h1.run
  obtain ⟨t2, p2, r2⟩ := h2.run
  refine ⟨⟨_, hq t t2 p p2, fun vs σ H Q F S w ds S' R rr hm q => ?_⟩, fun es S S' i ds hm hj => ?_⟩
  · cases rr with
    | nil => cases hm
    | cons rd rs =>
      obtain ⟨S1, e1, e2⟩ := Option.bind_eq_some_iff.mp hm
      refine ⟨_, _, rfl, r _ σ H _ F S w _ S1 R rd e1 fun σ1 R1 w1 => ?_⟩
      refine r2 _ σ1 H _ F S1 w _ S' R1 rs e2 fun σ2 R2 w2 => q σ2 R2 fun us hu => ?_
      rw [w2 us fun i hi => hu i (List.mem_append_right _ hi), w1 us fun i hi => hu i (List.mem_append_left _ hi)]
  · cases es with
    | nil => cases hm
    | cons d rs =>
      obtain ⟨S1, e1, e2⟩ := Option.bind_eq_some_iff.mp hm
      obtain ⟨a1, a2⟩ := h2.own _ _ _ i ds e2 hj
      obtain ⟨b1, b2⟩ := h1.own _ _ _ i ds e1 a1
      exact ⟨b1, fun z => (List.mem_append.mp z).elim b2 a2⟩
theorem dg_tup {tgs : List Expr} {kk : Nat} {ns : List Nat} {k : GMs} {n : Nat} (hK : g.K = X.K) (h : DGs X g tgs ns k) (hq : ∀ u : TGs, PGs X tgs u → PG X (.Tuple tgs kk pos) (gTup X.K n u)) (hn : ∀ ds S S', k ds S = some S' → ds.length = n) : DG X g (.Tuple tgs kk pos) ns (gTupM k) := by
  obtain ⟨t, p, r⟩ := h.run
  refine ⟨⟨_, hq t p, fun v σ H Q F S w d S' R rd hm q => ?_⟩, fun d S S' i ds hm hj => ?_⟩
  · rw [← hK]
    cases rd with
    | tup hs rs => exact ⟨_, _, rfl, same_T R.sub hs, by rw [rs.length]; exact hn _ _ _ hm, r _ σ H _ F S w _ S' R rs hm q⟩
    | _ => cases hm
  · cases d with
    | tup es => exact h.own es S S' i ds hm hj
    | _ => cases hm
theorem gs_len0 : ∀ ds S S', gsNil ds S = some S' → ds.length = 0 := fun ds S S' h => by
  cases ds with
  | nil => rfl
  | cons _ _ => cases h
theorem gs_len {m : GM} {k : GMs} {n : Nat} (h : ∀ ds S S', k ds S = some S' → ds.length = n) : ∀ ds S S', gsCons m k ds S = some S' → ds.length = n + 1 := fun ds S S' hm => by
  cases ds with
  | nil => cases hm
  | cons d r =>
    obtain ⟨S1, _, e2⟩ := Option.bind_eq_some_iff.mp hm
    rw [List.length_cons, h _ _ _ e2]
def tSemG (g : G) (ns : List Nat) (m : GM) : TG := fun v σ H Q => ∃ F S w d S', Rel g F w S σ H ∧ DR g F v d ∧ m d S = some S' ∧ ∀ σ', Rel g F w S' σ' H → (∀ vs, (∀ i ∈ ns, i ∈ vs) → L2.wipe σ' vs = L2.wipe σ vs) → Q σ' H
theorem DG.pg {tg : Expr} {ns : List Nat} {m : GM} (h : DG X g tg ns m) : PG X tg (tSemG g ns m) := by
  obtain ⟨t, p, r⟩ := h.run
  refine ⟨fun pins s σ H v u Q I rv ⟨F, S, w, d, S', R, rd, hm, q⟩ => ?_⟩
  exact p.run pins s σ H v u Q I rv (r v σ H Q F S w d S' R rd hm q)

/-! ### list comprehensions, one clause -/
def R.nx {α : Type} : R α → R α
  | .ok a w => .ok a w
  | _ => .bad
def lcLoop (gm : GM) (tm : TM) (em : EM) (S0 : SL) : List D → Bx → R (List D)
  | [], w => .ok [] w
  | d :: ds, w => match gm d S0 with
    | none => .bad
    | some S1 => (tm S1 w).nx.bind fun b w1 => if b then (em S1 w1).nx.bind fun y w2 => (lcLoop gm tm em S0 ds w2).bind fun ys w3 => .ok (y :: ys) w3 else lcLoop gm tm em S0 ds w1
def oLc (fi : AM) (gm : GM) (tm : TM) (em : EM) (vs : List Nat) : AM := fun S w => (fi S w).bind fun ds w1 => if ds.length ≤ sizeN then lcLoop gm tm em (wipeS S vs) ds w1 else .bad
def tYesM : TM := fun _ w => .ok true w
structure DTs (X : Cx) (g : G) (E : EK) (ifs : List Expr) (f : TM) : Prop where
  run : ∃ t, PTs X ifs t ∧ ∀ σ H Q F S w, Rel g F w S σ H → PostT g F H Q (E σ) (f S w) → t σ H Q
theorem dts_nil : DTs X g E [] tYesM := ⟨_, pts_nil, fun σ H Q F S w R h => h H F R.ex⟩
theorem dts_one {f : TM} (h : DT X g E c f) : DTs X g E [c] f := let ⟨t, p, r⟩ := h.run; ⟨t, pts_one p, r⟩
theorem DTs.pts {ifs : List Expr} {f : TM} (h : DTs X g E ifs f) : PTs X ifs (tSemT g E f) := by
  obtain ⟨t, p, r⟩ := h.run
  exact ⟨fun pins s σ H Q I ⟨F, S, w, R, q⟩ => p.run pins s σ H Q I (r σ H Q F S w R q)⟩
/-- what may be written anew -/
def Mut (u : HO) : Prop := (∃ vs, u = .lst vs) ∨ (∃ vs, u = .dK vs) ∨ ∃ C d vs, u = .ins C d vs
theorem Mut.ne {u : HO} (m : Mut u) (h1 : ∀ vs, u ≠ .lst vs) (h2 : ∀ vs, u ≠ .dK vs) (h3 : ∀ C d vs, u ≠ .ins C d vs) : False := by
  rcases m with ⟨vs, z⟩ | ⟨vs, z⟩ | ⟨C, d, vs, z⟩
  · exact h1 vs z
  · exact h2 vs z
  · exact h3 C d vs z
theorem Ext.mut {F F' : FH} {H H' : Hp} {w : Bx} {q : Addr} {o u0 : HO} (x : Ext g F H F' H' w) (n : H q = none) (n2 : F'.free q) (nb : q ≠ g.bx) (hq : H' q = some u0) (hm : Mut u0) : Ext g F H F' (upd H' q o) w := by
  refine ⟨x.ff, fun a u na nc nt h => ?_, fun a h => x.dom a (upd_dom h), x.new, x.nad, fun a u h => ?_, x.bx.heap (by rw [upd_ne nb.symm]) (fun i a h => by rw [upd_ne (show a ≠ q from fun z => n2.2 i (z ▸ h))]) fun a u h1 h2 h3 h => ?_⟩
  · rw [upd_ne (ne_of_none h n)]; exact x.hh a u na nc nt h
  · rw [upd_ne (ne_of_none h n2.1)]; exact x.sub a u h
  · by_cases e : a = q
    · rw [e, hq] at h; cases h; exact (hm.ne h1 h2 h3).elim
    · rw [upd_ne e]; exact h
theorem nx_post {α : Type} {F : FH} {H : Hp} {Q Q2 : α → Bx → Prop} {r : R α} {E1 E0 : XK} (h : PostG g F H E1 Q r.nx) (i : ∀ a w, Q a w → Q2 a w) : PostG g F H E0 Q2 r := by
  cases r with
  | ok a w => exact i a w h
  | err c fs w => exact h.elim
  | bad => exact h
theorem not_box {F : FH} {H : Hp} {w : Bx} {q : Addr} (b : BxOk g F w H) (n : H q = none) : q ≠ g.bx := fun e => by
  obtain ⟨c, h, _⟩ := b.at_
  rw [e, h] at n; cases n
theorem lc_run {wi : TI} {fi : AM} {gm : GM} {tm : TM} {em : EM} {ns vs : List Nat} (hn : ∀ i ∈ ns, i ∈ vs)
    (ri : ∀ σ H (Rq : It → Hp → Prop) F S w, Rel g F w S σ H → PostG g F H (E σ) (fun ds w' => ∀ J H' F', Ext g F H F' H' w' → Yld g F' J ds → Rq J H') (fi S w) → wi σ H Rq) :
    ∀ σ H Q F S w, Rel g F w S σ H → PostO g F H Q (E σ) (oLc fi gm tm em vs S w) → tLc wi (tSemG g ns gm) (tSemT g (kE E0) tm) (tSem g (kE E0) em) vs σ H Q := by
  intro σ H Q F S w R h
  refine ri σ H _ F S w R (PostG.imp (PostG.bind h) fun ds w1 _ h1 J H1 F1 x1 yl D nD => ?_)
  by_cases hl : ds.length ≤ sizeN
  · rw [if_pos hl] at h1
    have nDb : D ≠ g.bx := not_box x1.bx nD
    refine ⟨fun i m H2 => ∃ F2 w2 acc ys, Ext g F1 H1 F2 H2 w2 ∧ F2.free D ∧ H2 D = some (.lst acc) ∧ DRs g F2 acc ys ∧ ys.length ≤ i ∧ i + m = ds.length ∧
      PostG g F H (E σ) (fun zs w' => ∀ p vs H' F', Ext g F H F' H' w' → H p = none → F'.free p → H' p = some (.lst vs) → DRs g F' vs (ys ++ zs) → Q (.ref p) H') (lcLoop gm tm em (wipeS S vs) (ds.drop i) w2),
      ⟨ds.length, F1, w1, [], [], Ext.own x1.sub x1.bx nD, free_of x1.sub x1.bx nD, upd_same, .nil, Nat.zero_le _, by omega, h1⟩, fun i m H2 hW => ?_⟩
    obtain ⟨F2, w2, acc, ys, x2, nF2, hD, rys, hy, him, hp⟩ := hW
    cases hd : ds[i]? with
    | none =>
      have hle : ds.length ≤ i := List.getElem?_eq_none_iff.mp hd
      have hie : i = ds.length := by omega
      refine .inl ⟨hie ▸ yl.stop F2 H2 x2.ff x2.sub, ?_⟩
      rw [List.drop_eq_nil_of_le hle] at hp
      have hp : ∀ p vs H' F', Ext g F H F' H' w2 → H p = none → F'.free p → H' p = some (.lst vs) → DRs g F' vs (ys ++ []) → Q (.ref p) H' := hp
      rw [List.append_nil] at hp
      exact hp D acc H2 F2 (x1.trans x2) (x1.fresh nD) nF2 hD rys
    | some d =>
      obtain ⟨hlt, hde⟩ := List.getElem?_eq_some_iff.mp hd
      obtain ⟨hgo, hyl⟩ := yl.go i d F2 H2 x2.ff x2.sub hd
      rw [List.drop_eq_getElem_cons hlt, hde] at hp
      refine .inr ⟨hgo, fun H3 => ∃ F2 w2 acc ys, Ext g F1 H1 F2 H3 w2 ∧ F2.free D ∧ H3 D = some (.lst acc) ∧ DRs g F2 acc ys ∧ ys.length ≤ i + 1 ∧
        PostG g F H (E σ) (fun zs w' => ∀ p vs H' F', Ext g F H F' H' w' → H p = none → F'.free p → H' p = some (.lst vs) → DRs g F' vs (ys ++ zs) → Q (.ref p) H') (lcLoop gm tm em (wipeS S vs) (ds.drop (i + 1)) w2), fun H' hN => ?_, fun x H3 hx => ?_⟩
      · obtain ⟨F', w', acc', ys', b1, b2, b3, b4, b5, b6⟩ := hN
        exact ⟨m - 1, by omega, F', w', acc', ys', b1, b2, b3, b4, b5, by omega, b6⟩
      · -- the item, perhaps in a new pair
        have item : ∃ F3, Ext g F2 H2 F3 H3 w2 ∧ DR g F3 x d := by
          rcases hyl x H3 hx with ⟨e1, r1⟩ | ⟨T, xs, es, e1, nT, e2, r1, e3⟩
          · subst e1; exact ⟨F2, Ext.refl x2.sub x2.bx, r1⟩
          · subst e1 e2 e3
            exact ⟨_, Ext.lay x2.sub x2.bx nT, .tup (.inl (.inl upd_same)) (r1.mono (Ext.lay x2.sub x2.bx nT).ff)⟩
        obtain ⟨F3, x3, rx⟩ := item
        have x13 : Ext g F H F3 H3 w2 := x1.trans (x2.trans x3)
        cases hg : gm d (wipeS S vs) with
        | none => unfold lcLoop at hp; rw [hg] at hp; exact hp.elim
        | some S1 =>
          unfold lcLoop at hp
          rw [hg] at hp
          refine ⟨F3, wipeS S vs, w2, d, S1, (R.ext x13).wipe vs, rx, hg, fun σ2 R2 wp => ⟨?_, ?_⟩⟩
          · rw [wp vs hn]
            apply List.ext_getElem?
            intro j
            simp only [wipe_get, wipe_length]
            by_cases hj : j ∈ vs
            · simp only [if_pos hj]
            · simp only [if_neg hj]
          · refine ⟨F3, S1, w2, R2, nx_post (PostG.ext x13 (PostG.bind hp) fun b w3 h3 => h3) fun b w3 h3 H4 F4 x4 => ?_⟩
            have x14 := x13.trans x4
            have nF4 : F4.free D := (x3.trans x4).free nF2 hD
            have hD4 : H4 D = some (.lst acc) := (x3.trans x4).hh D _ nDb nF2.2 (fun _ z => by cases z) hD
            cases b with
            | false =>
              refine iteF ?_
              exact ⟨F4, w3, acc, ys, x2.trans (x3.trans x4), nF4, hD4, rys.mono (x3.ff.trans x4.ff), by omega, h3⟩
            | true =>
              refine iteT ?_
              refine ⟨F4, S1, w3, R2.ext x4, nx_post (PostG.ext x14 (PostG.bind h3) fun y w5 h5 => h5) fun y w5 h5 v H5 F5 x5 ry => ?_⟩
              have nF5 : F5.free D := x5.free nF4 hD4
              have hD5 : H5 D = some (.lst acc) := x5.hh D _ nDb nF4.2 (fun _ z => by cases z) hD4
              have hal : acc.length = ys.length := rys.length
              refine ⟨acc, hD5, by show acc.length < sizeN; omega, F5, w5, acc ++ [v], ys ++ [y], Ext.mut (x2.trans (x3.trans (x4.trans x5))) nD nF5 nDb hD5 (.inl ⟨_, rfl⟩), nF5, upd_same, (rys.mono (x3.ff.trans (x4.ff.trans x5.ff))).append (.cons ry .nil), by rw [List.length_append, List.length_singleton]; omega, ?_⟩
              refine PostG.imp (PostG.bind h5) fun zs w6 _ h6 => ?_
              rw [List.append_assoc]
              exact h6
  · rw [if_neg hl] at h1; exact h1.elim
theorem do_lc {elt tg iter : Expr} {ifs : List Expr} {scope : Scope} {fi : AM} {gm : GM} {tm : TM} {em : EM} {ns : List Nat} (own : List (Str × Nat)) (hc : X.calm = true) (hN : X.N.Nodup) (hi : DI X g E tg iter fi) (ok : BlkOk X.N X.env.scope scope own)
    (hg : ∀ (s : Shared) (H : Hp) (C : Addr) (cl : List (Str × Addr)) (fp : List Addr), DG (X.blk s H scope (compEnvC scope cl C X.env) fp) g tg ns gm) (ht : ∀ (s : Shared) (H : Hp) (C : Addr) (cl : List (Str × Addr)) (fp : List Addr), DTs (X.blk s H scope (compEnvC scope cl C X.env) fp) g (kE E0) ifs tm)
    (he : ∀ (s : Shared) (H : Hp) (C : Addr) (cl : List (Str × Addr)) (fp : List Addr), DE (X.blk s H scope (compEnvC scope cl C X.env) fp) g (kE E0) elt em) (hn : ∀ i ∈ ns, i ∈ own.map (·.2) := by decide) (hs : ∀ x, foldedSetIterable iter X.env x = pure x := by intro _; rfl) :
    DO X g E (.ListComp elt [⟨tg, iter, ifs, 0⟩] scope pos) (oLc fi gm tm em (own.map (·.2))) := by
  obtain ⟨wi, p, ri⟩ := hi.run
  exact ⟨_, pe_lc hc hN p ok (fun s H C cl fp => (hg s H C cl fp).pg) (fun s H C cl fp => (ht s H C cl fp).pts) (fun s H C cl fp => (he s H C cl fp).pe) hs, lc_run hn ri⟩
end
end Y
namespace Y
open PySem PySem.Spec PyProof.Rows L2
/-! ### statements -/
inductive RS where
  | nx (S : SL) (w : Bx) | rt (d : D) (w : Bx) | bk (S : SL) (w : Bx) | ct (S : SL) (w : Bx) | err (S : SL) (c : Str) (fs : List (Str × D)) (w : Bx) | bad
abbrev SM := SL → Bx → RS
structure RelS (g : G) (F0 : FH) (H0 : Hp) (B F : FH) (w : Bx) (S : SL) (σ : L2.St) (H : Hp) : Prop where
  rel : Rel g F w S σ H
  ext : Ext g F0 H0 F H w
  fl : FSame B F
  fr : ∀ (i : Nat) (ds : List D) (p : Addr), S[i]? = some (some (.own ds)) → σ[i]? = some (some (.ref p)) → H0 p = none
def PostS (g : G) (F0 : FH) (H0 : Hp) (B : FH) (E : EK) (N : Ends) : RS → Prop
  | .nx S w => ∀ (σ' : L2.St) (H' : Hp) (F' : FH), RelS g F0 H0 B F' w S σ' H' → N.nx σ' H'
  | .bk S w => ∀ (σ' : L2.St) (H' : Hp) (F' : FH), RelS g F0 H0 B F' w S σ' H' → N.bk σ' H'
  | .ct S w => ∀ (σ' : L2.St) (H' : Hp) (F' : FH), RelS g F0 H0 B F' w S σ' H' → N.ct σ' H'
  | .rt d w => ∀ (v : V) (H' : Hp) (F' : FH), Ext g F0 H0 F' H' w → DR g F' v d → N.rt v H'
  | .err S c fs w => ∀ (σ' : L2.St) (H' : Hp) (F' : FH), RelS g F0 H0 B F' w S σ' H' → ∀ (cl a : Addr) (vs : List (Str × V)), H0 a = none → g.cls c = some cl → H' a = some (.xd vs) → DRf g F' vs fs → E σ' (.ref cl) (some a) H'
  | .bad => False
structure DS (X : Cx) (g : G) (E : EK) (F0 : FH) (H0 : Hp) (st : Stmt) (m : SM) : Prop where
  run : ∃ t, PS X st t ∧ ∀ (N : Ends) (σ : L2.St) (H : Hp) (F : FH) (S : SL) (w : Bx) (B : FH), RelS g F0 H0 B F w S σ H → PostS g F0 H0 B E N (m S w) → t N σ H
structure DSs (X : Cx) (g : G) (E : EK) (F0 : FH) (H0 : Hp) (st : List Stmt) (m : SM) : Prop where
  run : ∃ t, PSs X st t ∧ ∀ (N : Ends) (σ : L2.St) (H : Hp) (F : FH) (S : SL) (w : Bx) (B : FH), RelS g F0 H0 B F w S σ H → PostS g F0 H0 B E N (m S w) → t N σ H
/-- a value, then what follows -/
def R.to {α : Type} : R α → SL → (α → Bx → RS) → RS
  | .ok a w, _, k => k a w
  | .err c fs w, S, _ => .err S c fs w
  | .bad, _, _ => .bad
@[simp] theorem R.to_ok {α : Type} (a : α) (w : Bx) (S : SL) (k : α → Bx → RS) : (R.ok a w).to S k = k a w := rfl
@[simp] theorem R.to_err {α : Type} (c : Str) (fs : List (Str × D)) (w : Bx) (S : SL) (k : α → Bx → RS) : (R.err c fs w : R α).to S k = .err S c fs w := rfl
@[simp] theorem R.to_bad {α : Type} (S : SL) (k : α → Bx → RS) : (R.bad : R α).to S k = .bad := rfl
section
variable {X : Cx} {g : G} {E : EK} {F0 : FH} {H0 : Hp} {B : FH} {e a b c : Expr} {es : List Expr} {pos p p2 : Pos} {fa fb f : EM} {fs : AM} {st : Stmt} {sts : List Stmt} {m m2 : SM} {N : Ends}
theorem RelS.ext' {F F' : FH} {H H' : Hp} {w w' : Bx} {S : SL} {σ : L2.St} (R : RelS g F0 H0 B F w S σ H) (x : Ext g F H F' H' w') : RelS g F0 H0 B F' w' S σ H' := ⟨R.rel.ext x, R.ext.trans x, R.fl.trans x.ff, R.fr⟩
theorem PostS.to {α : Type} {F : FH} {H : Hp} {w : Bx} {S : SL} {σ : L2.St} {r : R α} {k : α → Bx → RS} (R0 : RelS g F0 H0 B F w S σ H) (h : PostS g F0 H0 B E N (r.to S k)) : PostG g F H (E σ) (fun a w' => PostS g F0 H0 B E N (k a w')) r := by
  cases r with
  | ok a w => exact h
  | err c fs w => exact fun cl x vs H' F' e n k l q => h σ H' F' (RelS.ext' R0 e) cl x vs (R0.ext.fresh n) k l q
  | bad => exact h
def sNil : SM := fun S w => .nx S w
def sSeq (m k : SM) : SM := fun S w => match m S w with
  | .nx S1 w1 => k S1 w1
  | r => r
theorem dss_nil : DSs X g E F0 H0 [] sNil := ⟨_, pss_nil, fun N σ H F S w B R h => h σ H F R⟩
theorem dss_cons (h1 : DS X g E F0 H0 st m) (h2 : DSs X g E F0 H0 sts m2) : DSs X g E F0 H0 (st :: sts) (sSeq m m2) := by
  obtain ⟨t, p, r⟩ := h1.run
  obtain ⟨t2, p2, r2⟩ := h2.run
  refine ⟨_, pss_cons p p2, fun N σ H F S w B R h => ?_⟩
  refine r { N with nx := t2 N } σ H F S w B R ?_
  unfold sSeq at h
  cases hm : m S w with
  | nx S1 w1 => rw [hm] at h; exact fun σ' H' F' R' => r2 N σ' H' F' S1 w1 B R' h
  | rt d w1 => rw [hm] at h; exact h
  | bk S1 w1 => rw [hm] at h; exact h
  | ct S1 w1 => rw [hm] at h; exact h
  | err S1 c fs w1 => rw [hm] at h; exact h
  | bad => rw [hm] at h; exact h
theorem dss_one (h1 : DS X g E F0 H0 st m) : DSs X g E F0 H0 [st] m := let ⟨t, p, r⟩ := h1.run; ⟨t, pss_one p, r⟩
theorem ds_pass : DS X g E F0 H0 (.Pass pos) sNil := ⟨_, ps_pass, fun N σ H F S w B R h => h σ H F R⟩
theorem ds_doc {x : Str} {j : Nat} : DS X g E F0 H0 (.Expr (.Constant (.str x) j p) pos) sNil := ⟨_, ps_doc, fun N σ H F S w B R h => h σ H F R⟩
def sBk : SM := fun S w => .bk S w
def sCt : SM := fun S w => .ct S w
theorem ds_break : DS X g E F0 H0 (.Break pos) sBk := ⟨_, ps_break, fun N σ H F S w B R h => h σ H F R⟩
theorem ds_continue : DS X g E F0 H0 (.Continue pos) sCt := ⟨_, ps_continue, fun N σ H F S w B R h => h σ H F R⟩
def sRet (f : EM) : SM := fun S w => (f S w).to S fun d w1 => .rt d w1
theorem ds_ret (ha : DE X g E a fa) : DS X g E F0 H0 (.Return (some a) pos) (sRet fa) := by
  obtain ⟨t, p, r⟩ := ha.run
  refine ⟨_, ps_ret p, fun N σ H F S w B R h => ?_⟩
  exact r σ H _ F S w R.rel (PostG.imp (PostS.to R h) fun d w1 _ h1 v H1 F1 x1 r1 => h1 v H1 F1 (R.ext.trans x1) r1)
def sRetN : SM := fun _ w => .rt .non w
theorem ds_retN : DS X g E F0 H0 (.Return none pos) sRetN := ⟨_, ps_retN, fun N σ H F S w B R h => h .non H F R.ext .non⟩
def sDrop (f : EM) : SM := fun S w => (f S w).to S fun _ w1 => .nx S w1
theorem ds_expr (ha : DE X g E a fa) (hs : swapsWith a none pos.line X.env = pure false := by rfl) : DS X g E F0 H0 (.Expr a pos) (sDrop fa) := by
  obtain ⟨t, p, r⟩ := ha.run
  refine ⟨_, ps_expr p hs, fun N σ H F S w B R h => ?_⟩
  exact r σ H _ F S w R.rel (PostG.imp (PostS.to R h) fun d w1 _ h1 v H1 F1 x1 r1 => h1 σ H1 F1 (R.ext' x1))
def sIf (t : TM) (m k : SM) : SM := fun S w => (t S w).to S fun b w1 => if b then m S w1 else k S w1
theorem ds_if {tc : TM} {aa bb : List Stmt} (hc : DT X g E c tc) (ha : DSs X g E F0 H0 aa m) (hb : DSs X g E F0 H0 bb m2) : DS X g E F0 H0 (.If c aa bb pos) (sIf tc m m2) := by
  obtain ⟨t, p, r⟩ := hc.run
  obtain ⟨t1, p1, r1⟩ := ha.run
  obtain ⟨t2, p2, r2⟩ := hb.run
  refine ⟨_, ps_if p p1 p2, fun N σ H F S w B R h => ?_⟩
  refine r σ H _ F S w R.rel (PostG.imp (PostS.to R h) fun b w1 _ h1 H1 F1 x1 => ?_)
  cases b with
  | true => exact iteT (r1 N σ H1 F1 S w1 B (R.ext' x1) h1)
  | false => exact iteF (r2 N σ H1 F1 S w1 B (R.ext' x1) h1)
/-! assignments -/
theorem RelS.set {F : FH} {H : Hp} {w : Bx} {S : SL} {σ : L2.St} {v : V} {d : D} (R : RelS g F0 H0 B F w S σ H) (i : Nat) (r : DR g F v d) : RelS g F0 H0 B F w (S.set i (some (.dat d))) (σ.set i (some v)) H := by
  refine ⟨R.rel.set i r, R.ext, R.fl, fun j ds p h1 h2 => ?_⟩
  rw [List.getElem?_set] at h1 h2
  by_cases e : i = j
  · rw [if_pos e] at h1; split at h1 <;> cases h1
  · rw [if_neg e] at h1 h2; exact R.fr j ds p h1 h2
theorem RelS.setO {F : FH} {H : Hp} {w : Bx} {S : SL} {σ : L2.St} {q : Addr} {vs : List V} {ds : List D} (R : RelS g F0 H0 B F w S σ H) (i : Nat) (n0 : H0 q = none) (nF : F.free q) (nb : q ≠ g.bx) (hq : H q = some (.lst vs)) (r : DRs g F vs ds)
    (ne : ∀ (j : Nat) (es : List D), S[j]? = some (some (.own es)) → σ[j]? ≠ some (some (.ref q))) : RelS g F0 H0 B F w (S.set i (some (.own ds))) (σ.set i (some (.ref q))) H := by
  refine ⟨⟨R.rel.sub, R.rel.bx, by rw [List.length_set, List.length_set]; exact R.rel.len, fun j s hs => ?_, fun j k es es2 u h1 h2 h3 h4 => ?_⟩, R.ext, R.fl, fun j es p h1 h2 => ?_⟩
  · rw [List.getElem?_set] at hs ⊢
    by_cases e : i = j
    · rw [if_pos e] at hs ⊢
      by_cases hl : j < S.length
      · rw [if_pos (e ▸ hl)] at hs; cases hs
        rw [if_pos (by rw [e, ← R.rel.len]; exact hl)]
        exact ⟨_, rfl, q, vs, rfl, nF, nb, hq, r⟩
      · rw [if_neg (e ▸ hl)] at hs; cases hs
    · rw [if_neg e] at hs ⊢; exact R.rel.sl j s hs
  · rw [List.getElem?_set] at h1 h2 h3 h4
    by_cases e : i = j
    · by_cases e2 : i = k
      · exact e.symm.trans e2
      · rw [if_pos e] at h1 h3; rw [if_neg e2] at h2 h4
        by_cases hl : i < S.length
        · rw [if_pos (by rw [← R.rel.len]; exact hl)] at h3; cases h3
          exact absurd h4 (ne k es2 h2)
        · rw [if_neg hl] at h1; cases h1
    · by_cases e2 : i = k
      · rw [if_neg e] at h1 h3; rw [if_pos e2] at h2 h4
        by_cases hl : i < S.length
        · rw [if_pos (by rw [← R.rel.len]; exact hl)] at h4; cases h4
          exact absurd h3 (ne j es h1)
        · rw [if_neg hl] at h2; cases h2
      · rw [if_neg e] at h1 h3; rw [if_neg e2] at h2 h4; exact R.rel.inj j k es es2 u h1 h2 h3 h4
  · rw [List.getElem?_set] at h1 h2
    by_cases e : i = j
    · rw [if_pos e] at h1 h2
      split at h2
      · cases h2; exact n0
      · cases h2
    · rw [if_neg e] at h1 h2; exact R.fr j es p h1 h2
def sSet (i : Nat) (f : EM) : SM := fun S w => (f S w).to S fun d w1 => .nx (S.set i (some (.dat d))) w1
def sSetO (i : Nat) (f : AM) : SM := fun S w => (f S w).to S fun ds w1 => .nx (S.set i (some (.own ds))) w1
theorem set_run {t : TE} {i : Nat} (r : ∀ σ H Q F S w, Rel g F w S σ H → Post g F H Q (E σ) (f S w) → t σ H Q) : ∀ (N : Ends) (σ : L2.St) (H : Hp) (F : FH) (S : SL) (w : Bx) (B : FH), RelS g F0 H0 B F w S σ H → PostS g F0 H0 B E N (sSet i f S w) → tAsg t (gName i) N σ H := by
  intro N σ H F S w B R h
  exact r σ H _ F S w R.rel (PostG.imp (PostS.to R h) fun d w1 _ h1 v H1 F1 x1 r1 => h1 _ H1 F1 ((R.ext' x1).set i r1))
theorem setO_run {t : TE} {i : Nat} (r : ∀ σ H Q F S w, Rel g F w S σ H → PostO g F H Q (E σ) (fs S w) → t σ H Q) : ∀ (N : Ends) (σ : L2.St) (H : Hp) (F : FH) (S : SL) (w : Bx) (B : FH), RelS g F0 H0 B F w S σ H → PostS g F0 H0 B E N (sSetO i fs S w) → tAsg t (gName i) N σ H := by
  intro N σ H F S w B R h
  refine r σ H _ F S w R.rel (PostG.imp (PostS.to R h) fun d w1 _ h1 p vs H1 F1 x1 np nF hp r1 => h1 _ H1 F1 ((R.ext' x1).setO i (R.ext.fresh np) nF (not_box R.rel.bx np) hp r1 fun j es hj hs => ?_))
  obtain ⟨v, e1, q, us, e2, e3, e4, e5, e6⟩ := R.rel.sl j _ hj
  rw [hs] at e1; cases e1
  cases e2
  rw [np] at e5; cases e5
theorem ds_set (i : Nat) {x : Str} (ha : DE X g E a f) (hN : X.N.Nodup) (hi : X.N[i]? = some x := by rfl) (hx : Loc X.env.scope x := by first | exact Or.inl rfl | exact Or.inr rfl) (hs : swapsWith a (some (.Name x p2)) pos.line X.env = pure false := by rfl)
    (hf : X.fn x = true ∨ X.env.scope.names.lookup x = some .local := by first | exact .inl rfl | exact .inr rfl) : DS X g E F0 H0 (.Assign [.Name x p2] a pos) (sSet i f) := by
  obtain ⟨t, p, r⟩ := ha.run
  exact ⟨_, ps_set hN hi hx p hs hf, set_run r⟩
theorem ds_setO (i : Nat) {x : Str} (ha : DO X g E a fs) (hN : X.N.Nodup) (hi : X.N[i]? = some x := by rfl) (hx : Loc X.env.scope x := by first | exact Or.inl rfl | exact Or.inr rfl) (hs : swapsWith a (some (.Name x p2)) pos.line X.env = pure false := by rfl)
    (hf : X.fn x = true ∨ X.env.scope.names.lookup x = some .local := by first | exact .inl rfl | exact .inr rfl) : DS X g E F0 H0 (.Assign [.Name x p2] a pos) (sSetO i fs) := by
  obtain ⟨t, p, r⟩ := ha.run
  exact ⟨_, ps_set hN hi hx p hs hf, setO_run r⟩
/-- x = [..] where the store lies within the comprehension -/
theorem frz_run {t : TE} (r : ∀ σ H Q F S w, Rel g F w S σ H → PostO g F H Q (E σ) (fs S w) → t σ H Q) : ∀ σ H Q F S w, Rel g F w S σ H → Post g F H Q (E σ) (eFrz fs S w) → t σ H Q := by
  intro σ H Q F S w R h
  refine r σ H _ F S w R (PostG.imp (PostG.bind h) fun ds w1 _ h1 p vs H1 F1 x1 np n1 hp q1 => ?_)
  have x2 := Ext.freeze x1 np n1 hp (not_box R.bx np)
  exact h1 (.ref p) H1 _ x2 (.lst upd_same (q1.mono (FSame.upd n1.1)))
theorem ds_setLcO (i : Nat) {y : Str} {py : Pos} {elt tg iter : Expr} {ifs : List Expr} {scope : Scope} {fi : AM} {gm : GM} {tm : TM} {em : EM} {ns : List Nat} {spos : Pos} (own : List (Str × Nat)) (hc : X.calm = true) (hN : X.N.Nodup) (hy : X.N[i]? = some y) (hyl : X.env.scope.names.lookup y = some .local)
    (hsw : swapsWith (.ListComp elt [⟨tg, iter, ifs, 0⟩] scope pos) (some (.Name y py)) spos.line X.env = pure true) (hi : DI X g E tg iter fi) (ok : BlkOk X.N X.env.scope scope own)
    (hg : ∀ (s : Shared) (H : Hp) (C : Addr) (cl : List (Str × Addr)) (fp : List Addr), DG (X.blk s H scope (compEnvC scope cl C X.env) fp) g tg ns gm) (ht : ∀ (s : Shared) (H : Hp) (C : Addr) (cl : List (Str × Addr)) (fp : List Addr), DTs (X.blk s H scope (compEnvC scope cl C X.env) fp) g (kE E0) ifs tm)
    (he : ∀ (s : Shared) (H : Hp) (C : Addr) (cl : List (Str × Addr)) (fp : List Addr), DE (X.blk s H scope (compEnvC scope cl C X.env) fp) g (kE E0) elt em) (hn : ∀ i ∈ ns, i ∈ own.map (·.2) := by decide) (hs : ∀ x, foldedSetIterable iter X.env x = pure x := by intro _; rfl) :
    DS X g E F0 H0 (.Assign [.Name y py] (.ListComp elt [⟨tg, iter, ifs, 0⟩] scope pos) spos) (sSetO i (oLc fi gm tm em (own.map (·.2)))) := by
  obtain ⟨wi, p, ri⟩ := hi.run
  exact ⟨_, ps_setLc hc hN hy hyl hsw p ok (fun s H C cl fp => (hg s H C cl fp).pg) (fun s H C cl fp => (ht s H C cl fp).pts) (fun s H C cl fp => (he s H C cl fp).pe) hs, setO_run (lc_run hn ri)⟩
theorem ds_setLc (i : Nat) {y : Str} {py : Pos} {elt tg iter : Expr} {ifs : List Expr} {scope : Scope} {fi : AM} {gm : GM} {tm : TM} {em : EM} {ns : List Nat} {spos : Pos} (own : List (Str × Nat)) (hc : X.calm = true) (hN : X.N.Nodup) (hy : X.N[i]? = some y) (hyl : X.env.scope.names.lookup y = some .local)
    (hsw : swapsWith (.ListComp elt [⟨tg, iter, ifs, 0⟩] scope pos) (some (.Name y py)) spos.line X.env = pure true) (hi : DI X g E tg iter fi) (ok : BlkOk X.N X.env.scope scope own)
    (hg : ∀ (s : Shared) (H : Hp) (C : Addr) (cl : List (Str × Addr)) (fp : List Addr), DG (X.blk s H scope (compEnvC scope cl C X.env) fp) g tg ns gm) (ht : ∀ (s : Shared) (H : Hp) (C : Addr) (cl : List (Str × Addr)) (fp : List Addr), DTs (X.blk s H scope (compEnvC scope cl C X.env) fp) g (kE E0) ifs tm)
    (he : ∀ (s : Shared) (H : Hp) (C : Addr) (cl : List (Str × Addr)) (fp : List Addr), DE (X.blk s H scope (compEnvC scope cl C X.env) fp) g (kE E0) elt em) (hn : ∀ i ∈ ns, i ∈ own.map (·.2) := by decide) (hs : ∀ x, foldedSetIterable iter X.env x = pure x := by intro _; rfl) :
    DS X g E F0 H0 (.Assign [.Name y py] (.ListComp elt [⟨tg, iter, ifs, 0⟩] scope pos) spos) (sSet i (eFrz (oLc fi gm tm em (own.map (·.2))))) := by
  obtain ⟨wi, p, ri⟩ := hi.run
  exact ⟨_, ps_setLc hc hN hy hyl hsw p ok (fun s H C cl fp => (hg s H C cl fp).pg) (fun s H C cl fp => (ht s H C cl fp).pts) (fun s H C cl fp => (he s H C cl fp).pe) hs, set_run (frz_run (lc_run hn ri))⟩
/-- any target -/
theorem wipe_off {σ σ' : L2.St} {ns : List Nat} (h : L2.wipe σ' ns = L2.wipe σ ns) {i : Nat} (hi : i ∉ ns) : σ'[i]? = σ[i]? := by
  have h1 := congrArg (fun l : L2.St => l[i]?) h
  simp only [wipe_get, if_neg hi] at h1
  exact h1
theorem RelS.tgt {F : FH} {H : Hp} {w : Bx} {S S' : SL} {σ σ' : L2.St} {tg : Expr} {ns : List Nat} {gm : GM} {d : D} (hg : DG X g tg ns gm) (R : RelS g F0 H0 B F w S σ H) (hm : gm d S = some S') (R' : Rel g F w S' σ' H) (hw : ∀ vs, (∀ i ∈ ns, i ∈ vs) → L2.wipe σ' vs = L2.wipe σ vs) : RelS g F0 H0 B F w S' σ' H :=
  ⟨R', R.ext, R.fl, fun i ds p h1 h2 => by
    obtain ⟨a1, a2⟩ := hg.own d S S' i ds hm h1
    rw [wipe_off (hw ns fun _ z => z) a2] at h2
    exact R.fr i ds p a1 h2⟩
def sAsg (f : EM) (gm : GM) : SM := fun S w => (f S w).to S fun d w1 => match gm d S with
  | some S1 => .nx S1 w1
  | none => .bad
theorem ds_asg {tg : Expr} {ns : List Nat} {gm : GM} (ha : DE X g E a f) (hg : DG X g tg ns gm) (hq : ∀ (te : TE) (tt : TG), PE X a te → PG X tg tt → PS X (.Assign [tg] a pos) (tAsg te tt) := by exact fun _ _ h1 h2 => ps_asg h1 h2) : DS X g E F0 H0 (.Assign [tg] a pos) (sAsg f gm) := by
  obtain ⟨t, p, r⟩ := ha.run
  obtain ⟨tg', pg, rg⟩ := hg.run
  refine ⟨_, hq _ _ p pg, fun N σ H F S w B R h => ?_⟩
  refine r σ H _ F S w R.rel (PostG.imp (PostS.to R h) fun d w1 _ h1 v H1 F1 x1 r1 => ?_)
  cases hm : gm d S with
  | none => rw [hm] at h1; exact h1.elim
  | some S1 =>
    rw [hm] at h1
    exact rg v σ H1 _ F1 S w1 d S1 (R.rel.ext x1) r1 hm fun σ' R' hw => h1 σ' H1 F1 ((R.ext' x1).tgt hg hm R' hw)
/-- a, b = x, y -/
def sPar (i j : Nat) (fs : AM) : SM := fun S w => (fs S w).to S fun ds w1 => match ds with
  | [d, e] => .nx ((S.set i (some (.dat d))).set j (some (.dat e))) w1
  | _ => .bad
theorem ds_par (i j : Nat) {x y : Str} {px py pt : Pos} {kt k2 : Nat} {pt2 : Pos} (hp : ∀ ta : TA, PA X [a, b] ta → PS X (.Assign [.Tuple [.Name x px, .Name y py] kt pt] (.Tuple [a, b] k2 pt2) pos) (tPar i j ta)) (ha : DA X g E [a, b] fs) :
    DS X g E F0 H0 (.Assign [.Tuple [.Name x px, .Name y py] kt pt] (.Tuple [a, b] k2 pt2) pos) (sPar i j fs) := by
  obtain ⟨t, p, r⟩ := ha.run
  refine ⟨_, hp t p, fun N σ H F S w B R h => ?_⟩
  refine r σ H _ F S w R.rel (PostG.imp (PostS.to R h) fun ds w1 _ h1 vs H1 F1 x1 r1 => ?_)
  split at h1
  · obtain ⟨v, u, rfl, h, h'⟩ := drs2 r1
    exact ⟨v, u, rfl, h1 _ H1 F1 (((R.ext' x1).set i h).set j h')⟩
  · exact h1.elim
def sPar3 (i j k : Nat) (fs : AM) : SM := fun S w => (fs S w).to S fun ds w1 => match ds with
  | [d, e, q] => .nx (((S.set i (some (.dat d))).set j (some (.dat e))).set k (some (.dat q))) w1
  | _ => .bad
theorem ds_par3 (i j k : Nat) {x y z : Str} {px py pz pt : Pos} {kt k2 : Nat} {pt2 : Pos} (hp : ∀ ta : TA, PA X [a, b, c] ta → PS X (.Assign [.Tuple [.Name x px, .Name y py, .Name z pz] kt pt] (.Tuple [a, b, c] k2 pt2) pos) (tPar3 i j k ta)) (ha : DA X g E [a, b, c] fs) :
    DS X g E F0 H0 (.Assign [.Tuple [.Name x px, .Name y py, .Name z pz] kt pt] (.Tuple [a, b, c] k2 pt2) pos) (sPar3 i j k fs) := by
  obtain ⟨t, p, r⟩ := ha.run
  refine ⟨_, hp t p, fun N σ H F S w B R h => ?_⟩
  refine r σ H _ F S w R.rel (PostG.imp (PostS.to R h) fun ds w1 _ h1 vs H1 F1 x1 r1 => ?_)
  split at h1
  · cases r1 with
    | cons h r1 =>
      obtain ⟨v, u, rfl, h2, h3⟩ := drs2 r1
      exact ⟨_, v, u, rfl, h1 _ H1 F1 ((((R.ext' x1).set i h).set j h2).set k h3)⟩
  · exact h1.elim
/-! lists that are changed -/
theorem RelS.mut {F : FH} {H : Hp} {w : Bx} {S : SL} {σ : L2.St} {i : Nat} {q : Addr} {us : List V} {ds es : List D} (R : RelS g F0 H0 B F w S σ H) (hi : S[i]? = some (some (.own ds))) (hs : σ[i]? = some (some (.ref q))) (nF : F.free q) (nb : q ≠ g.bx) (r : DRs g F us es) :
    RelS g F0 H0 B F w (S.set i (some (.own es))) σ (upd H q (.lst us)) := by
  have hl : i < S.length := (List.getElem?_eq_some_iff.mp hi).1
  have hqv : ∃ vs0, H q = some (.lst vs0) := by
    obtain ⟨v, e1, q', vs', e2, _, _, hp', _⟩ := R.rel.sl i _ hi
    rw [hs] at e1; cases e1; cases e2
    exact ⟨vs', hp'⟩
  obtain ⟨vs0, hqv⟩ := hqv
  have x : Ext g F0 H0 F (upd H q (.lst us)) w := Ext.mut R.ext (R.fr i ds q hi hs) nF nb hqv (.inl ⟨_, rfl⟩)
  refine ⟨⟨x.sub, x.bx, by rw [List.length_set]; exact R.rel.len, fun j s hj => ?_, fun j k es1 es2 u h1 h2 h3 h4 => ?_⟩, x, R.fl, fun j es1 p h1 h2 => ?_⟩
  · rw [List.getElem?_set] at hj
    by_cases e : i = j
    · subst e
      rw [if_pos rfl, if_pos hl] at hj; cases hj
      exact ⟨_, hs, q, us, rfl, nF, nb, upd_same, r⟩
    · rw [if_neg e] at hj
      obtain ⟨v, e1, e2⟩ := R.rel.sl j s hj
      refine ⟨v, e1, ?_⟩
      cases s with
      | dat d => exact e2
      | own zs =>
        obtain ⟨q2, ws, e3, e4, e5, e6, e7⟩ := e2
        subst e3
        refine ⟨q2, ws, rfl, e4, e5, ?_, e7⟩
        rw [upd_ne (fun z => e ?_)]
        · exact e6
        · subst z; exact (R.rel.inj i j ds zs _ hi hj hs e1)
      | lam ls =>
        obtain ⟨p, ws, e3, e4, e5⟩ := e2
        obtain ⟨v2, k1, q2, ws2, k2, _, _, k3, _⟩ := R.rel.sl i _ hi
        rw [hs] at k1; cases k1; cases k2
        exact ⟨p, ws, e3, e4, e5.upd k3 fun _ z => by cases z⟩
      | ins c fs =>
        obtain ⟨C, ws, e3, hc, n1, n2, b1, b2, g1, g2, e7⟩ := e2
        obtain ⟨v2, k1, q2, ws2, k2, _, _, k3, _⟩ := R.rel.sl i _ hi
        rw [hs] at k1; cases k1; cases k2
        have d1 : g.me ≠ q := fun z => by rw [z, k3] at g1; cases g1
        have d2 : g.md ≠ q := fun z => by rw [z, k3] at g2; cases g2
        exact ⟨C, ws, e3, hc, n1, n2, b1, b2, by rw [upd_ne d1]; exact g1, by rw [upd_ne d2]; exact g2, e7⟩
  · have key : ∀ (j : Nat) (zs : List D), (S.set i (some (.own es)))[j]? = some (some (.own zs)) → ∃ zs', S[j]? = some (some (.own zs')) := fun j zs h => by
      rw [List.getElem?_set] at h
      by_cases e : i = j
      · subst e; exact ⟨ds, hi⟩
      · rw [if_neg e] at h; exact ⟨zs, h⟩
    obtain ⟨z1, h1⟩ := key j es1 h1
    obtain ⟨z2, h2⟩ := key k es2 h2
    exact R.rel.inj j k z1 z2 u h1 h2 h3 h4
  · rw [List.getElem?_set] at h1
    by_cases e : i = j
    · subst e; exact R.fr i ds p hi h2
    · rw [if_neg e] at h1; exact R.fr j es1 p h1 h2
def ownAt (S : SL) (i : Nat) : Option (List D) := match S[i]? with
  | some (some (.own ds)) => some ds
  | _ => none
theorem ownAt_some {S : SL} {i : Nat} {ds : List D} (h : ownAt S i = some ds) : S[i]? = some (some (.own ds)) := by
  unfold ownAt at h
  split at h
  · cases h; assumption
  · cases h
def sAppend (i : Nat) (f : EM) : SM := fun S w => match ownAt S i with
  | some ds => (f S w).to S fun d w1 => if ds.length < sizeN then .nx (S.set i (some (.own (ds ++ [d])))) w1 else .bad
  | none => .bad
theorem ds_append (i : Nat) {x : Str} {px apos : Pos} (hK : g.K = X.K) (ha : DE X g E a f) (hN : X.N[i]? = some x := by rfl) (hv : Vis X.env.scope x := by first | exact Or.inl rfl | exact Or.inr (Or.inl rfl) | exact Or.inr (Or.inr rfl)) (hd : (x == ("__debug__" : Str)) = false := by decide)
    (hcd : (x == ("__classdict__" : Str)) = false := by decide)
    (hq : ∀ (to te : TE), PE X (.Name x px) to → PE X a te → PE X (.Call (.Attribute (.Name x px) "append" apos) [a] [] p) (tBM X.K "list" rAppend to (tCons te tNil)) := by exact fun _ _ h1 h2 => pe_bm PySem.F.plainAttrs_list PySem.F.slot_list_append PySem.F.type_list_append mt_append h1 (pa_cons h2 pa_nil))
    (hs : swapsWith (.Call (.Attribute (.Name x px) "append" apos) [a] [] p) none pos.line X.env = pure false := by rfl) :
    DS X g E F0 H0 (.Expr (.Call (.Attribute (.Name x px) "append" apos) [a] [] p) pos) (sAppend i f) := by
  obtain ⟨t, pa, r⟩ := ha.run
  refine ⟨_, ps_expr (hq _ _ (pe_var hN hv hd hcd) pa) hs, fun N σ H F S w B R h => ?_⟩
  unfold sAppend at h
  cases ho : ownAt S i with
  | none => rw [ho] at h; exact h.elim
  | some ds =>
    rw [ho] at h
    have hi := ownAt_some ho
    obtain ⟨v, e1, q, vs, e2, nF, nb, hp, rd⟩ := R.rel.sl i _ hi
    subst e2
    refine ⟨_, e1, .inl ⟨rfl, vs, .inl (.inl hp)⟩, ?_⟩
    refine r σ H _ F S w R.rel (PostG.imp (PostS.to R h) fun d w1 _ h1 v H1 F1 x1 r1 => ?_)
    have R1 := R.ext' x1
    obtain ⟨v2, e3, q2, vs2, e4, nF1, _, hp1, rd1⟩ := R1.rel.sl i _ hi
    rw [e1] at e3; cases e3; cases e4
    by_cases hl : ds.length < sizeN
    · rw [if_pos hl] at h1
      exact ⟨q, vs2, v, rfl, rfl, hp1, by rw [rd1.length]; exact hl, h1 _ _ F1 (R1.mut hi e1 nF1 nb (rd1.append (.cons r1 .nil)))⟩
    · rw [if_neg hl] at h1; exact h1.elim
def sExtend (i : Nat) (f : EM) : SM := fun S w => match ownAt S i with
  | some ds => (f S w).to S fun d w1 => match d with
    | .lst es => if ds.length + es.length ≤ sizeN then .nx (S.set i (some (.own (ds ++ es)))) w1 else .bad
    | _ => .bad
  | none => .bad
theorem ds_extend (i : Nat) {x : Str} {px apos : Pos} (hK : g.K = X.K) (ha : DE X g E a f) (hN : X.N[i]? = some x := by rfl) (hv : Vis X.env.scope x := by first | exact Or.inl rfl | exact Or.inr (Or.inl rfl) | exact Or.inr (Or.inr rfl)) (hd : (x == ("__debug__" : Str)) = false := by decide)
    (hcd : (x == ("__classdict__" : Str)) = false := by decide)
    (hq : ∀ (to te : TE), PE X (.Name x px) to → PE X a te → PE X (.Call (.Attribute (.Name x px) "extend" apos) [a] [] p) (tBM X.K "list" rExtend to (tCons te tNil)) := by exact fun _ _ h1 h2 => pe_bm PySem.F.plainAttrs_list PySem.F.slot_list_extend PySem.F.type_list_extend mt_extend h1 (pa_cons h2 pa_nil))
    (hs : swapsWith (.Call (.Attribute (.Name x px) "extend" apos) [a] [] p) none pos.line X.env = pure false := by rfl) :
    DS X g E F0 H0 (.Expr (.Call (.Attribute (.Name x px) "extend" apos) [a] [] p) pos) (sExtend i f) := by
  obtain ⟨t, pa, r⟩ := ha.run
  refine ⟨_, ps_expr (hq _ _ (pe_var hN hv hd hcd) pa) hs, fun N σ H F S w B R h => ?_⟩
  unfold sExtend at h
  cases ho : ownAt S i with
  | none => rw [ho] at h; exact h.elim
  | some ds =>
    rw [ho] at h
    have hi := ownAt_some ho
    obtain ⟨v, e1, q, vs, e2, nF, nb, hp, rd⟩ := R.rel.sl i _ hi
    subst e2
    refine ⟨_, e1, .inl ⟨rfl, vs, .inl (.inl hp)⟩, ?_⟩
    refine r σ H _ F S w R.rel (PostG.imp (PostS.to R h) fun d w1 _ h1 v H1 F1 x1 r1 => ?_)
    have R1 := R.ext' x1
    obtain ⟨v2, e3, q2, vs2, e4, nF1, _, hp1, rd1⟩ := R1.rel.sl i _ hi
    rw [e1] at e3; cases e3; cases e4
    cases r1 with
    | @lst b ys es hb rs =>
      by_cases hl : ds.length + es.length ≤ sizeN
      · simp only [if_pos hl] at h1
        exact ⟨q, b, vs2, ys, rfl, rfl, hp1, x1.sub _ _ hb, by rw [rd1.length, rs.length]; exact hl, h1 _ _ F1 (R1.mut hi e1 nF1 nb (rd1.append rs))⟩
      · simp only [if_neg hl] at h1; exact h1.elim
    | _ => exact h1.elim
def sPut (i : Nat) (fi f : EM) : SM := fun S w => (f S w).to S fun d w1 => match ownAt S i with
  | some ds => (fi S w1).to S fun k w2 => match k with
    | .int j => match ixN ds.length j with
      | some n => .nx (S.set i (some (.own (ds.set n d)))) w2
      | none => .bad
    | _ => .bad
  | none => .bad
theorem ds_put (i : Nat) {x : Str} {px tpos : Pos} {fi : EM} (hb : DE X g E b fi) (ha : DE X g E a f) (hN : X.N[i]? = some x := by rfl) (hv : Vis X.env.scope x := by first | exact Or.inl rfl | exact Or.inr (Or.inl rfl) | exact Or.inr (Or.inr rfl)) (hd : (x == ("__debug__" : Str)) = false := by decide)
    (hcd : (x == ("__classdict__" : Str)) = false := by decide)
    (hq : ∀ (to ti te : TE), PE X (.Name x px) to → PE X b ti → PE X a te → PS X (.Assign [.Subscript (.Name x px) b tpos] a pos) (tAsg te (gSub to ti rSetL)) := by exact fun _ _ _ h1 h2 h3 => ps_asg h3 (pg_sub h1 h2 set_list)) :
    DS X g E F0 H0 (.Assign [.Subscript (.Name x px) b tpos] a pos) (sPut i fi f) := by
  obtain ⟨t, pa, r⟩ := ha.run
  obtain ⟨ti, pi, ri⟩ := hb.run
  refine ⟨_, hq _ _ _ (pe_var hN hv hd hcd) pi pa, fun N σ H F S w B R h => ?_⟩
  refine r σ H _ F S w R.rel (PostG.imp (PostS.to R h) fun d w1 _ h1 v H1 F1 x1 r1 => ?_)
  have R1 := R.ext' x1
  cases ho : ownAt S i with
  | none => rw [ho] at h1; exact h1.elim
  | some ds =>
    rw [ho] at h1
    have hi := ownAt_some ho
    obtain ⟨u, e1, q, vs, e2, nF, nb, hp, rd⟩ := R1.rel.sl i _ hi
    subst e2
    refine ⟨_, e1, ri σ H1 _ F1 S w1 R1.rel (PostG.imp (PostS.to R1 h1) fun k w2 _ h2 y H2 F2 x2 r2 => ?_)⟩
    have R2 := R1.ext' x2
    obtain ⟨v2, e3, q2, vs2, e4, nF2, _, hp2, rd2⟩ := R2.rel.sl i _ hi
    rw [e1] at e3; cases e3; cases e4
    cases r2 with
    | int j =>
      cases hx : ixN ds.length j with
      | none => simp only [hx] at h2; exact h2.elim
      | some n =>
        simp only [hx] at h2
        exact ⟨q, vs2, j, n, rfl, rfl, hp2, by rw [rd2.length]; exact hx, h2 _ _ F2 (R2.mut hi e1 nF2 nb (rd2.set (r1.mono x2.ff) n))⟩
    | _ => exact h2.elim
/-- a list that is not changed any more -/
def frz (i : Nat) (S : SL) : SL := match ownAt S i with
  | some ds => S.set i (some (.dat (.lst ds)))
  | none => S
theorem RelS.frz {F : FH} {H : Hp} {w : Bx} {S : SL} {σ : L2.St} (R : RelS g F0 H0 B F w S σ H) (i : Nat) : ∃ F', RelS g F0 H0 B F' w (Y.frz i S) σ H := by
  unfold Y.frz
  cases ho : ownAt S i with
  | none => exact ⟨F, R⟩
  | some ds =>
    have hi := ownAt_some ho
    have hl : i < S.length := (List.getElem?_eq_some_iff.mp hi).1
    obtain ⟨v, e1, q, vs, e2, nF, nb, hp, rd⟩ := R.rel.sl i _ hi
    subst e2
    have n0 := R.fr i ds q hi e1
    have x := Ext.freeze R.ext n0 nF hp nb
    have sF : FSame F (F.upd q (.lst vs)) := FSame.upd nF.1
    refine ⟨F.upd q (.lst vs), ⟨⟨x.sub, x.bx, by rw [List.length_set]; exact R.rel.len, fun j s hj => ?_, fun j k es1 es2 u h1 h2 h3 h4 => ?_⟩, x, R.fl.trans sF, fun j es1 p h1 h2 => ?_⟩⟩
    · rw [List.getElem?_set] at hj
      by_cases e : i = j
      · subst e
        rw [if_pos rfl, if_pos hl] at hj; cases hj
        exact ⟨_, e1, .lst upd_same (rd.mono sF)⟩
      · rw [if_neg e] at hj
        obtain ⟨v, e3, e4⟩ := R.rel.sl j s hj
        refine ⟨v, e3, ?_⟩
        cases s with
        | dat d => exact DR.mono sF e4
        | own zs =>
          obtain ⟨q2, ws, e5, e6, e7, e8, e9⟩ := e4
          subst e5
          refine ⟨q2, ws, rfl, ?_, e7, e8, e9.mono sF⟩
          refine e6.upd fun z => e ?_
          subst z; exact R.rel.inj i j ds zs _ hi hj e1 e3
        | lam ls =>
          obtain ⟨p, ws, e5, e6, e7⟩ := e4
          exact ⟨p, ws, e5, sF.fz _ _ e6, e7.keep sF.fz fun a z nb na hc => ⟨hc, na⟩⟩
        | ins c fs =>
          obtain ⟨C, ws, e5, hc, n1, n2, b1, b2, g1, g2, e9⟩ := e4
          have d1 : g.me ≠ q := fun z => by rw [z, hp] at g1; cases g1
          have d2 : g.md ≠ q := fun z => by rw [z, hp] at g2; cases g2
          exact ⟨C, ws, e5, hc, n1.upd d1, n2.upd d2, b1, b2, g1, g2, e9.mono sF⟩
    · rw [List.getElem?_set] at h1 h2
      by_cases e : i = j
      · rw [if_pos e] at h1; split at h1 <;> cases h1
      · by_cases e2 : i = k
        · rw [if_pos e2] at h2; split at h2 <;> cases h2
        · rw [if_neg e] at h1; rw [if_neg e2] at h2; exact R.rel.inj j k es1 es2 u h1 h2 h3 h4
    · rw [List.getElem?_set] at h1
      by_cases e : i = j
      · rw [if_pos e] at h1; split at h1 <;> cases h1
      · rw [if_neg e] at h1; exact R.fr j es1 p h1 h2
def sFrz (i : Nat) (m : SM) : SM := fun S w => m (frz i S) w
theorem ds_frz (i : Nat) (h : DS X g E F0 H0 st m) : DS X g E F0 H0 st (sFrz i m) := by
  obtain ⟨t, p, r⟩ := h.run
  refine ⟨t, p, fun N σ H F S w B R h => ?_⟩
  obtain ⟨F', R'⟩ := R.frz i
  exact r N σ H F' _ w B R' h
/-- len(xs) of a list that is still changed -/
def eLenO (i : Nat) : EM := fun S w => match ownAt S i with
  | some ds => .ok (.int (ds.length : Int)) w
  | none => .bad
theorem de_lenO (i : Nat) {x : Str} {px : Pos} (hK : g.K = X.K) (hm : X.mg "len" = none) (hN : X.N[i]? = some x := by rfl) (hv : Vis X.env.scope x := by first | exact Or.inl rfl | exact Or.inr (Or.inl rfl) | exact Or.inr (Or.inr rfl)) (hg : Gl X "len" := by rfl) (hd : (x == ("__debug__" : Str)) = false := by decide)
    (hcd : (x == ("__classdict__" : Str)) = false := by decide) (he : starEach [.Name x px] X.env = (false, eval (.Name x px) X.env) :: starEach [] X.env := by rfl) (hpl : (backTo pos (starEach [] X.env)).any (·.1) = false := by rfl) : DE X g E (.Call (.Name "len" p) [.Name x px] [] pos) (eLenO i) := by
  refine ⟨_, pe_callB call_len hg hm PySem.boot_len (pa_cons (pe_var hN hv hd hcd) pa_nil he) (by decide) (by decide) he hpl, fun σ H Q F S w R h => ?_⟩
  unfold eLenO at h
  cases ho : ownAt S i with
  | none => rw [ho] at h; exact h.elim
  | some ds =>
    rw [ho] at h
    obtain ⟨v, e1, q, vs, e2, nF, nb, hp, rd⟩ := R.sl i _ (ownAt_some ho)
    subst e2
    refine ⟨_, e1, _, _, rfl, .inl ⟨vs, .inl (.inl hp), rfl⟩, ?_⟩
    rw [rd.length]
    exact h _ H F R.ex (.int _)
/-- xs[k] of such a list -/
def eIxO (i : Nat) (f : EM) : EM := fun S w => match ownAt S i with
  | some ds => (f S w).bind fun k w1 => match k with
    | .int j => R.ofO (atI ds j) w1
    | _ => .bad
  | none => .bad
theorem de_ixO (i : Nat) {x : Str} {px : Pos} (hK : g.K = X.K) (hb : DE X g E b fb) (hN : X.N[i]? = some x := by rfl) (hv : Vis X.env.scope x := by first | exact Or.inl rfl | exact Or.inr (Or.inl rfl) | exact Or.inr (Or.inr rfl)) (hd : (x == ("__debug__" : Str)) = false := by decide)
    (hcd : (x == ("__classdict__" : Str)) = false := by decide) (hs : PlainIx b := by exact fun _ _ => rfl) : DE X g E (.Subscript (.Name x px) b pos) (eIxO i fb) := by
  obtain ⟨tb, pb, rb⟩ := hb.run
  refine ⟨_, pe_ix ix_list (pe_var hN hv hd hcd) pb hs, fun σ H Q F S w R h => ?_⟩
  unfold eIxO at h
  cases ho : ownAt S i with
  | none => rw [ho] at h; exact h.elim
  | some ds =>
    rw [ho] at h
    have hi := ownAt_some ho
    obtain ⟨v, e1, q, vs, e2, nF, nb, hp, rd⟩ := R.sl i _ hi
    subst e2
    refine ⟨_, e1, rb σ H _ F S w R (PostG.imp (PostG.bind h) fun k w1 _ h1 y H1 F1 x1 r1 => ?_)⟩
    obtain ⟨v2, e3, q2, vs2, e4, nF2, _, hp2, rd2⟩ := (R.ext x1).sl i _ hi
    rw [e1] at e3; cases e3; cases e4
    cases r1 with
    | int j =>
      obtain ⟨z, hz, q3⟩ := post_ofO h1
      obtain ⟨u, e5, e6⟩ := rd2.atI hz
      exact ⟨_, vs2, j, u, rfl, rfl, .inl (.inl hp2), e5, q3 _ H1 F1 x1 e6⟩
    | _ => exact h1.elim
/-! loops -/
def forLoop (gm : GM) (body : SM) : List D → SL → Bx → RS
  | [], S, w => .nx S w
  | d :: ds, S, w => match gm d S with
    | none => .bad
    | some S1 => match body S1 w with
      | .nx S2 w2 => forLoop gm body ds S2 w2
      | .ct S2 w2 => forLoop gm body ds S2 w2
      | .bk S2 w2 => .nx S2 w2
      | r => r
def sFor (fi : AM) (gm : GM) (body : SM) : SM := fun S w => (fi S w).to S fun ds w1 => forLoop gm body ds S w1
theorem ds_for {tg iter : Expr} {body : List Stmt} {fi : AM} {gm : GM} {ns : List Nat} (hp : PassesOwn (model X.prog X.w) X.A X.env X.xe) (hc : X.calm = true) (hi : DI X g E tg iter fi) (hg : DG X g tg ns gm) (hb : DSs X g E F0 H0 body m)
    (hq : PassesOwn (model X.prog X.w) X.A X.env X.xe → X.calm = true → ∀ (wi : TI) (g : TG) (tb : TS), PI X tg iter wi → PG X tg g → PSs X body tb → PS X (.For tg iter body [] pos) (tFor wi g tb) := by exact fun hp hc _ _ _ h1 h2 h3 => ps_for hp hc h1 h2 h3) : DS X g E F0 H0 (.For tg iter body [] pos) (sFor fi gm m) := by
  obtain ⟨wi, pi, ri⟩ := hi.run
  obtain ⟨tg', pg, rg⟩ := hg.run
  obtain ⟨tb, pb, rb⟩ := hb.run
  refine ⟨_, hq hp hc _ _ _ pi pg pb, fun N σ H F S w B R h => ?_⟩
  refine ri σ H _ F S w R.rel (PostG.imp (PostS.to R h) fun ds w1 _ h1 J H1 F1 x1 yl => ?_)
  have sB : FSame B F1 := R.fl.trans x1.ff
  have R1 : RelS g F0 H0 F1 F1 w1 S σ H1 := { R.ext' x1 with fl := FSame.refl F1 }
  refine ⟨fun i k σ2 H2 => ∃ F2 S2 w2, RelS g F0 H0 F1 F2 w2 S2 σ2 H2 ∧ i + k = ds.length ∧ PostS g F0 H0 B E N (forLoop gm m (ds.drop i) S2 w2), ⟨ds.length, F1, S, w1, R1, by omega, h1⟩, fun i k σ2 H2 hW => ?_⟩
  obtain ⟨F2, S2, w2, R2, hik, hpost⟩ := hW
  have lower : ∀ {F S w σ H}, RelS g F0 H0 F1 F w S σ H → RelS g F0 H0 B F w S σ H := fun r => { r with fl := sB.trans r.fl }
  cases hd : ds[i]? with
  | none =>
    have hle : ds.length ≤ i := List.getElem?_eq_none_iff.mp hd
    rw [List.drop_eq_nil_of_le hle] at hpost
    have hie : i = ds.length := by omega
    exact .inl ⟨hie ▸ yl.stop F2 H2 R2.fl R2.rel.sub, hpost σ2 H2 F2 (lower R2)⟩
  | some d =>
    obtain ⟨hlt, hde⟩ := List.getElem?_eq_some_iff.mp hd
    obtain ⟨hgo, hyl⟩ := yl.go i d F2 H2 R2.fl R2.rel.sub hd
    rw [List.drop_eq_getElem_cons hlt, hde] at hpost
    refine .inr ⟨hgo, fun σ3 H3 => ∃ F3 S3 w3, RelS g F0 H0 F1 F3 w3 S3 σ3 H3 ∧ PostS g F0 H0 B E N (forLoop gm m (ds.drop (i + 1)) S3 w3), fun σ3 H3 hN => ?_, fun x H3 hx => ?_⟩
    · obtain ⟨F3, S3, w3, b1, b3⟩ := hN
      exact ⟨k - 1, by omega, F3, S3, w3, b1, by omega, b3⟩
    · have item : ∃ F3, Ext g F2 H2 F3 H3 w2 ∧ DR g F3 x d := by
        rcases hyl x H3 hx with ⟨e1, r1⟩ | ⟨T, xs, es, e1, nT, e2, r1, e3⟩
        · subst e1; exact ⟨F2, Ext.refl R2.rel.sub R2.rel.bx, r1⟩
        · subst e1 e2 e3
          exact ⟨_, Ext.lay R2.rel.sub R2.rel.bx nT, .tup (.inl (.inl upd_same)) (r1.mono (Ext.lay R2.rel.sub R2.rel.bx nT).ff)⟩
      obtain ⟨F3, x3, rx⟩ := item
      unfold forLoop at hpost
      cases hm : gm d S2 with
      | none => rw [hm] at hpost; exact hpost.elim
      | some S3 =>
        rw [hm] at hpost
        have R3 := R2.ext' x3
        refine rg x σ2 H3 _ F3 S2 w2 d S3 R3.rel rx hm fun σ3 Rl hw => ?_
        refine rb _ σ3 H3 F3 S3 w2 F1 (R3.tgt hg hm Rl hw) ?_
        cases hbd : m S3 w2 with
        | nx S4 w4 => simp only [hbd] at hpost; exact fun σ4 H4 F4 R4 => ⟨F4, S4, w4, R4, hpost⟩
        | ct S4 w4 => simp only [hbd] at hpost; exact fun σ4 H4 F4 R4 => ⟨F4, S4, w4, R4, hpost⟩
        | bk S4 w4 => simp only [hbd] at hpost; exact fun σ4 H4 F4 R4 => hpost σ4 H4 F4 (lower R4)
        | rt d w4 => simp only [hbd] at hpost; exact hpost
        | err S4 c fs w4 => simp only [hbd] at hpost; exact fun σ4 H4 F4 R4 => hpost σ4 H4 F4 (lower R4)
        | bad => simp only [hbd] at hpost; exact hpost
def whLoop (tm : TM) (body : SM) : Nat → SL → Bx → RS
  | 0, _, _ => .bad
  | n + 1, S, w => (tm S w).to S fun b w1 => if b then (match body S w1 with
      | .nx S2 w2 => whLoop tm body n S2 w2
      | .ct S2 w2 => whLoop tm body n S2 w2
      | .bk S2 w2 => .nx S2 w2
      | r => r) else .nx S w1
def sWhile (n : SL → Nat) (tm : TM) (body : SM) : SM := fun S w => whLoop tm body (n S) S w
theorem ds_while {body : List Stmt} {tc : TM} (n : SL → Nat) (hp : PassesOwn (model X.prog X.w) X.A X.env X.xe) (hc : DT X g E c tc) (hb : DSs X g E F0 H0 body m) : DS X g E F0 H0 (.While c body [] pos) (sWhile n tc m) := by
  obtain ⟨t, p, r⟩ := hc.run
  obtain ⟨tb, pb, rb⟩ := hb.run
  refine ⟨_, ps_while hp p pb, fun N σ H F S w B R h => ?_⟩
  refine ⟨fun k σ2 H2 => ∃ F2 S2 w2, RelS g F0 H0 B F2 w2 S2 σ2 H2 ∧ PostS g F0 H0 B E N (whLoop tc m k S2 w2), ⟨n S, F, S, w, R, h⟩, fun k σ2 H2 hW => ?_⟩
  obtain ⟨F2, S2, w2, R2, hpost⟩ := hW
  cases k with
  | zero => exact hpost.elim
  | succ k =>
    unfold whLoop at hpost
    refine r σ2 H2 _ F2 S2 w2 R2.rel (PostG.imp (PostS.to R2 hpost) fun b w3 _ h3 H3 F3 x3 => ?_)
    have R3 := R2.ext' x3
    cases b with
    | false => exact iteF (h3 σ2 H3 F3 R3)
    | true =>
      refine iteT ⟨fun σ4 H4 => ∃ F4 S4 w4, RelS g F0 H0 B F4 w4 S4 σ4 H4 ∧ PostS g F0 H0 B E N (whLoop tc m k S4 w4), fun σ4 H4 h4 => ⟨k, Nat.lt_succ_self k, h4⟩, ?_⟩
      refine rb _ σ2 H3 F3 S2 w3 B R3 ?_
      simp only [if_true] at h3
      cases hbd : m S2 w3 with
      | nx S4 w4 => rw [hbd] at h3; exact fun σ4 H4 F4 R4 => ⟨F4, S4, w4, R4, h3⟩
      | ct S4 w4 => rw [hbd] at h3; exact fun σ4 H4 F4 R4 => ⟨F4, S4, w4, R4, h3⟩
      | bk S4 w4 => rw [hbd] at h3; exact h3
      | rt d w4 => rw [hbd] at h3; exact h3
      | err S4 c fs w4 => rw [hbd] at h3; exact h3
      | bad => rw [hbd] at h3; exact h3
end
/-! ### a def -/
def startS (n : Nat) (ds : List D) : SL := ds.map (fun d => some (.dat d)) ++ List.replicate (n - ds.length) none
def runF (k n : Nat) (body : SM) : List D → Bx → R D := fun ds w => if ds.length = k then (match body (startS n ds) w with
  | .nx _ w1 => .ok .non w1
  | .rt d w1 => .ok d w1
  | .err _ c fs w1 => .err c fs w1
  | _ => .bad) else .bad
section
variable {P : Program} {w : World} {K : PySem.W.Frag} {mg : Str → Option Value} {base : Heap} {cls : CT}
theorem rel_start {g : G} {F : FH} {H : Hp} {w : Bx} {vs : List V} {ds : List D} {N : List Str} (s : Same F H) (b : BxOk g F w H) (r : DRs g F vs ds) : RelS g F H F F w (startS N.length ds) (start N vs) H := by
  have key : ∀ (i : Nat) (x : SV), (startS N.length ds)[i]? = some (some x) → ∃ d v, x = .dat d ∧ (start N vs)[i]? = some (some v) ∧ DR g F v d := fun i x hx => by
    unfold startS at hx
    unfold L2.start
    rw [List.getElem?_append] at hx ⊢
    simp only [List.length_map] at hx ⊢
    rw [r.length]
    by_cases hi : i < ds.length
    · rw [if_pos hi] at hx ⊢
      rw [List.getElem?_map] at hx ⊢
      obtain ⟨d, hd, e⟩ := Option.map_eq_some_iff.mp hx
      cases e
      obtain ⟨v, hv, rv⟩ := r.get hd
      exact ⟨d, v, rfl, by rw [hv]; rfl, rv⟩
    · rw [if_neg hi, List.getElem?_replicate] at hx
      split at hx <;> cases hx
  refine ⟨⟨s, b, ?_, fun i x hx => ?_, fun i j ds1 ds2 v h1 => ?_⟩, Ext.refl s b, FSame.refl F, fun i ds1 p h1 => ?_⟩
  · unfold startS L2.start
    simp [r.length]
  · obtain ⟨d, v, rfl, h1, h2⟩ := key i x hx
    exact ⟨v, h1, h2⟩
  · obtain ⟨d, _, e, _⟩ := key i _ h1; cases e
  · obtain ⟨d, _, e, _⟩ := key i _ h1; cases e
/-- the code object of a def -/
def CodeIs (K : PySem.W.Frag) (f : Addr) (cdv : Value) : Prop := ∃ oc od fd osl, K.lookup f = some ⟨oc, od, .func fd, osl⟩ ∧ fd.code = cdv
theorem okC {x qual : Str} {st : Stmt} {f : Addr} {fd : FuncData} {N ps : List Str} {k : Nat} {sp : Sp} (F : Fun K x qual st f fd) (S : FnScope N ps (defScope st)) (ln : ∀ vs H Q E, sp vs H Q E → vs.length = ps.length)
    (hb : ∀ (cdv : Value), CodeIs K f cdv → ∀ (A : Around) (outer : List Env) (s : Shared) (H : Hp) (vs : List V) (Q : VK) (E : XK), Room k (A.deeper (envOfC qual (defScope st) s.heap.objs.size f cdv)) → sp vs H Q E → ∃ t, PSs (cxOf (L2.CX P w) P w K mg base N qual (defScope st) f cdv A outer s H E) (defBody st) t ∧ t { nx := fun _ H' => Q .non H', rt := Q } (start N vs) H) :
    FnOk P w K mg base (L2.CX P w) (k + 1) f fd ps sp := by
  obtain ⟨oc, od, kV, dc, pm, an, cv, ct, sl, rfl, lk, hcd⟩ := F.ex
  exact fn_of lk hcd S ln fun A outer s H vs Q E hr h => hb cv ⟨_, _, _, _, lk, rfl⟩ A outer s H vs Q E hr h
theorem cal_of {x : Str} {st : Stmt} {f : Addr} {fd : FuncData} {N ps : List Str} {k : Nat} {m : List D → Bx → R D} {body : SM} (F : Fun K x x st f fd) (S : FnScope N ps (defScope st)) (hmg : mg x = some (.ref f)) (hb : Binds K fd ps [])
    (hbody : ∀ (cdv : Value), CodeIs K f cdv → ∀ (A : Around) (outer : List Env) (s : Shared) (H : Hp) (E : XK) (bx : BQ) (F0 : FH), Room k (A.deeper (envOfC x (defScope st) s.heap.objs.size f cdv)) →
      DSs (cxOf (L2.CX P w) P w K mg base N x (defScope st) f cdv A outer s H E) ⟨K, cls, bx⟩ (kE E) F0 H (defBody st) body)
    (hm : ∀ ds w, m ds w ≠ .bad → runF ps.length N.length body ds w = m ds w) : Cal P w K mg base cls x (k + 1) ps.length m := by
  refine ⟨f, fd, ps, okC F S (fun vs H Q E h => h.1) (fun cdv hcv A outer s H vs Q E hr h => ?_), hmg, F.kp, hb⟩
  obtain ⟨hl, bx, F0, ds, w0, s1, b1, rd, hp⟩ := h
  obtain ⟨t, pt, rt⟩ := (hbody cdv hcv A outer s H E bx F0 hr).run
  refine ⟨t, pt, rt _ (start N vs) H F0 (startS N.length ds) w0 F0 (rel_start s1 b1 rd) ?_⟩
  have hnb : m ds w0 ≠ .bad := fun e => by rw [e] at hp; exact hp
  have e := hm ds w0 hnb
  rw [← e] at hp
  unfold runF at hp
  rw [if_pos (by rw [← rd.length]; exact hl)] at hp
  cases hbd : body (startS N.length ds) w0 with
  | nx S1 w1 => simp only [hbd] at hp; exact fun σ' H' F' R' => hp .non H' F' R'.ext .non
  | rt d w1 => simp only [hbd] at hp; exact hp
  | bk S1 w1 => simp only [hbd] at hp; exact hp.elim
  | ct S1 w1 => simp only [hbd] at hp; exact hp.elim
  | err S1 c fs w1 => simp only [hbd] at hp; exact fun σ' H' F' R' cl a vs n k l r => hp cl a vs H' F' R'.ext n k l r
  | bad => simp only [hbd] at hp; exact hp
end
end Y
namespace Y
open PySem PySem.Spec PyProof.Rows L2
theorem u65 {k : Nat} {A : Around} (r : Room k A) : A.units + 65 < cLine := by have := r.un; omega
theorem u64 {k : Nat} {A : Around} (r : Room k A) : A.units + 64 < cLine := r.units
/-! ### the box's four places -/
def bxGet (w : Bx) : Int → Option D
  | 0 => some (.lst (w.cells.map .int))
  | 1 => some (.int (w.ix : Int))
  | 2 => some (.int w.big)
  | 3 => some (.int w.mark)
  | _ => none
def bxPut (w : Bx) (k : Int) (d : D) : Option Bx := match d with
  | .int i => if k = 1 then (if 0 ≤ i then some { w with ix := i.toNat } else none)
    else if k = 2 then (if 0 ≤ i then some { w with big := i } else none)
    else if k = 3 then (if 0 ≤ i ∧ i < 2147483647 then some { w with mark := i } else none) else none
  | _ => none
def isBox (S : SL) (i : Nat) : Bool := match S[i]? with
  | some (some (.dat .box)) => true
  | _ => false
theorem isBox_at {S : SL} {i : Nat} (h : isBox S i = true) : S[i]? = some (some (.dat .box)) := by
  unfold isBox at h
  split at h
  · assumption
  · cases h
def eBx (i : Nat) (k : Int) : EM := fun S w => if isBox S i then R.ofO (bxGet w k) w else .bad
section
variable {X : Cx} {g : G} {E : EK} {F0 : FH} {H0 : Hp} {B : FH} {e a b c : Expr} {es : List Expr} {pos p p2 : Pos} {fa fb fc f : EM} {fs : AM} {m : SM}
theorem drs_ints {F : FH} : ∀ ns : List Int, DRs g F (ns.map V.int) (ns.map D.int)
  | [] => .nil
  | n :: ns => .cons (.int n) (drs_ints ns)
theorem de_bx (i : Nat) (k : Int) {x : Str} {px pk : Pos} {j : Nat} (hK : g.K = X.K) (hN : X.N[i]? = some x := by rfl) (hv : Vis X.env.scope x := by first | exact Or.inl rfl | exact Or.inr (Or.inl rfl) | exact Or.inr (Or.inr rfl)) (hd : (x == ("__debug__" : Str)) = false := by decide)
    (hcd : (x == ("__classdict__" : Str)) = false := by decide) (hs : PlainIx (.Constant (.int k) j pk) := by exact fun _ _ => rfl) : DE X g E (.Subscript (.Name x px) (.Constant (.int k) j pk) pos) (eBx i k) := by
  refine ⟨_, pe_ix ix_list (pe_var hN hv hd hcd) pe_int hs, fun σ H Q F S w R h => ?_⟩
  unfold eBx at h
  by_cases hb : isBox S i = true
  · rw [if_pos hb] at h
    obtain ⟨v, e1, e2⟩ := R.sl i _ (isBox_at hb)
    cases e2
    obtain ⟨c, h1, h2⟩ := R.bx.at_
    obtain ⟨z, hz, q⟩ := post_ofO h
    refine ⟨_, e1, ?_⟩
    have hsq : SqL X.K H g.bx [.ref c, .int (w.ix : Int), .int w.big, .int w.mark] := .inl (.inl h1)
    unfold bxGet at hz
    split at hz
    · cases hz; exact ⟨_, _, _, _, rfl, rfl, hsq, rfl, q _ H F R.ex (.lst h2 (drs_ints _))⟩
    · cases hz; exact ⟨_, _, _, _, rfl, rfl, hsq, rfl, q _ H F R.ex (.int _)⟩
    · cases hz; exact ⟨_, _, _, _, rfl, rfl, hsq, rfl, q _ H F R.ex (.int _)⟩
    · cases hz; exact ⟨_, _, _, _, rfl, rfl, hsq, rfl, q _ H F R.ex (.int _)⟩
    · cases hz
  · rw [if_neg hb] at h; exact h.elim
def sBx (i : Nat) (k : Int) (f : EM) : SM := fun S w => (f S w).to S fun d w1 => if isBox S i then (match bxPut w1 k d with
  | some w2 => .nx S w2
  | none => .bad) else .bad
theorem BxOk.reb {F : FH} {H : Hp} {w w' : Bx} {xs : List V} (b : BxOk g F w H) (h : ∃ c, upd H g.bx (.lst xs) g.bx = some (.lst [.ref c, .int (w'.ix : Int), .int w'.big, .int w'.mark]) ∧ F c = some (.lst (w'.cells.map V.int))) (h1 : 0 ≤ w'.big) (h2 : 0 ≤ w'.mark) (h3 : w'.mark < 2147483647) (h4 : w'.cells.length ≤ 63) (hs : w'.st = w.st := by rfl) : BxOk g F w' (upd H g.bx (.lst xs)) := by
  have kx : ∀ a o, (∀ vs, o ≠ .lst vs) → H a = some o → upd H g.bx (.lst xs) a = some o := fun a o n q => by
    rw [upd_ne (fun e => ?_)]
    · exact q
    · obtain ⟨c, z, _⟩ := b.at_
      rw [e, z] at q; cases q; exact n _ rfl
  refine ⟨h, b.no, h1, h2, h3, h4, fun i c q => ?_, by rw [hs]; exact b.adl, b.inj, Tabs.keep b.tabs (fun a o n _ _ q => kx a o n q), b.ntb⟩
  rw [hs] at q
  obtain ⟨a, e1, e2, e3, e4⟩ := b.cel i c q
  exact ⟨a, e1, e2, e3, e4.keep (FSame.refl F) (upd_ne e3) fun b x q => kx b _ (fun _ z => by cases z) q⟩
/-- the box alone turns -/
theorem RelS.box {F : FH} {H : Hp} {w w' : Bx} {S : SL} {σ : L2.St} {xs : List V} (R : RelS g F0 H0 B F w S σ H) (b : BxOk g F w' (upd H g.bx (.lst xs))) : RelS g F0 H0 B F w' S σ (upd H g.bx (.lst xs)) := by
  have hF : ∀ a o, F a = some o → a ≠ g.bx := fun a o h e => by rw [e, R.rel.bx.no] at h; cases h
  have sub : Same F (upd H g.bx (.lst xs)) := fun a o h => by rw [upd_ne (hF a o h)]; exact R.rel.sub a o h
  refine ⟨⟨sub, b, R.rel.len, fun i s hs => ?_, R.rel.inj⟩, ⟨R.ext.ff, fun a o n nc nt h => ?_, fun a h => R.ext.dom a (upd_dom h), R.ext.new, R.ext.nad, sub, b⟩, R.fl, R.fr⟩
  · obtain ⟨v, e1, e2⟩ := R.rel.sl i s hs
    refine ⟨v, e1, ?_⟩
    cases s with
    | dat d => exact e2
    | own ds =>
      obtain ⟨q, vs, e3, e4, e5, e6, e7⟩ := e2
      exact ⟨q, vs, e3, e4, e5, by rw [upd_ne e5]; exact e6, e7⟩
    | lam ls =>
      obtain ⟨p, vs, e3, e4, e5⟩ := e2
      obtain ⟨c0, hb0, _⟩ := R.rel.bx.at_
      exact ⟨p, vs, e3, e4, e5.upd hb0 fun _ z => by cases z⟩
    | ins c fs =>
      obtain ⟨C, vs, e3, hc, n1, n2, b1, b2, g1, g2, e7⟩ := e2
      exact ⟨C, vs, e3, hc, n1, n2, b1, b2, by rw [upd_ne b1]; exact g1, by rw [upd_ne b2]; exact g2, e7⟩
  · rw [upd_ne n]; exact R.ext.hh a o n nc nt h
theorem ds_bx (i : Nat) (k : Int) {x : Str} {px pk tpos : Pos} {j : Nat} (ha : DE X g E a f) (hN : X.N[i]? = some x := by rfl) (hv : Vis X.env.scope x := by first | exact Or.inl rfl | exact Or.inr (Or.inl rfl) | exact Or.inr (Or.inr rfl)) (hd : (x == ("__debug__" : Str)) = false := by decide)
    (hcd : (x == ("__classdict__" : Str)) = false := by decide)
    (hq : ∀ (to ti te : TE), PE X (.Name x px) to → PE X (.Constant (.int k) j pk) ti → PE X a te → PS X (.Assign [.Subscript (.Name x px) (.Constant (.int k) j pk) tpos] a pos) (tAsg te (gSub to ti rSetL)) := by exact fun _ _ _ h1 h2 h3 => ps_asg h3 (pg_sub h1 h2 set_list)) :
    DS X g E F0 H0 (.Assign [.Subscript (.Name x px) (.Constant (.int k) j pk) tpos] a pos) (sBx i k f) := by
  obtain ⟨t, pa, r⟩ := ha.run
  refine ⟨_, hq _ _ _ (pe_var hN hv hd hcd) pe_int pa, fun N σ H F S w B R h => ?_⟩
  refine r σ H _ F S w R.rel (PostG.imp (PostS.to R h) fun d w1 _ h1 v H1 F1 x1 r1 => ?_)
  have R1 := R.ext' x1
  by_cases hb : isBox S i = true
  · rw [if_pos hb] at h1
    obtain ⟨u, e1, e2⟩ := R1.rel.sl i _ (isBox_at hb)
    cases e2
    obtain ⟨c, hB, hC⟩ := R1.rel.bx.at_
    have b1 := R1.rel.bx
    refine ⟨_, e1, ?_⟩
    cases r1 with
    | int n =>
      unfold bxPut at h1
      by_cases k1 : k = 1
      · subst k1
        simp only [if_true] at h1
        by_cases hn : 0 ≤ n
        · simp only [if_pos hn] at h1
          refine ⟨_, _, 1, 1, rfl, rfl, hB, rfl, h1 _ _ F1 (R1.box (b1.reb ⟨c, ?_, hC⟩ (b1.big0) (b1.mk0) (b1.mk1) (b1.nc)))⟩
          rw [upd_same]
          simp only [List.set]
          rw [show ((n.toNat : Nat) : Int) = n by omega]
        · simp only [if_neg hn] at h1; exact h1.elim
      · simp only [if_neg k1] at h1
        by_cases k2 : k = 2
        · subst k2
          simp only [if_true] at h1
          by_cases hn : 0 ≤ n
          · simp only [if_pos hn] at h1
            exact ⟨_, _, 2, 2, rfl, rfl, hB, rfl, h1 _ _ F1 (R1.box (b1.reb ⟨c, upd_same, hC⟩ (hn) (b1.mk0) (b1.mk1) (b1.nc)))⟩
          · simp only [if_neg hn] at h1; exact h1.elim
        · simp only [if_neg k2] at h1
          by_cases k3 : k = 3
          · subst k3
            simp only [if_true] at h1
            by_cases hn : 0 ≤ n ∧ n < 2147483647
            · simp only [if_pos hn] at h1
              exact ⟨_, _, 3, 3, rfl, rfl, hB, rfl, h1 _ _ F1 (R1.box (b1.reb ⟨c, upd_same, hC⟩ (b1.big0) (hn.1) (hn.2) (b1.nc)))⟩
            · simp only [if_neg hn] at h1; exact h1.elim
          · simp only [if_neg k3] at h1; exact h1.elim
    | _ => exact h1.elim
  · rw [if_neg hb] at h1; exact h1.elim
/-! ### a < b < c -/
def eChain (m m2 : D → D → Option D) (fa fb fc : EM) : EM := fun S w => (fa S w).bind fun d w1 => (fb S w1).bind fun e w2 => (R.ofO (m d e) w2).bind fun z w3 => match z with
  | .bl true => (fc S w3).bind fun q w4 => R.ofO (m2 e q) w4
  | .bl false => .ok (.bl false) w3
  | _ => .bad
theorem de_chain {op op2 : CmpOp} {r r2 : R2} {m m2 : D → D → Option D} (ho : OpR X (compareOp op) r) (hm : OpD g r m) (ho2 : OpR X (compareOp op2) r2) (hm2 : OpD g r2 m2) (ha : DE X g E a fa) (hb : DE X g E b fb) (hc : DE X g E c fc)
    (hl : lastMarks [op, op2] [b, c] = false := by with_unfolding_all rfl) : DE X g E (.Compare a [op, op2] [b, c] pos) (eChain m m2 fa fb fc) := by
  obtain ⟨ta, pa, ra⟩ := ha.run
  obtain ⟨tb, pb, rb⟩ := hb.run
  obtain ⟨tc, pc, rc⟩ := hc.run
  refine ⟨_, pe_chain ho ho2 pa pb pc hl, fun σ H Q F S w R h => ?_⟩
  refine ra σ H _ F S w R (PostG.imp (PostG.bind h) fun d w1 _ h1 v H1 F1 x1 r1 => ?_)
  refine rb σ H1 _ F1 S w1 (R.ext x1) (PostG.ext x1 (PostG.bind h1) fun e w2 h2 u H2 F2 x2 r2 => ?_)
  have x12 := x1.trans x2
  obtain ⟨z, hz, q⟩ := post_ofO' (PostG.bind h2)
  refine hm F2 H2 w2 v u d e z _ x2.sub x2.bx (r1.mono x2.ff) r2 hz fun v3 H3 F3 x3 r3 => ?_
  have x13 := x12.trans x3
  cases r3 with
  | bl k =>
    refine ⟨k, rfl, ?_⟩
    cases k with
    | false => exact iteF (q _ H3 F3 x13 (.bl _))
    | true =>
      refine iteT (rc σ H3 _ F3 S w2 (R.ext x13) (PostG.ext x13 (PostG.bind q) fun y w4 h4 v4 H4 F4 x4 r4 => ?_))
      obtain ⟨z2, hz2, q2⟩ := post_ofO h4
      exact hm2 F4 H4 w4 u v4 e y z2 Q x4.sub x4.bx (r2.mono (x3.ff.trans x4.ff)) r4 hz2 fun v5 H5 F5 x5 r5 => q2 v5 H5 F5 ((x13.trans x4).trans x5) r5
  | _ => exact q.elim
end
end Y
namespace Y
open PySem PySem.Spec PyProof.Rows L2
/-! ### the module's constants -/
structure Glb (K : PySem.W.Frag) (mg : Str → Option Value) (x : Str) (d : D) : Prop where
  ex : ∃ v u, mg x = some u ∧ RelV v u ∧ ∀ (g : G) (F : FH), g.K = K → DR g F v d
theorem de_glb {X : Cx} {g : G} {E : EK} {x : Str} {d : D} {pos : Pos} (hK : g.K = X.K) (h : Glb X.K X.mg x d) (hg : Gl X x := by rfl) (hdb : (x == ("__debug__" : Str)) = false := by decide) : DE X g E (.Name x pos) (eC d) := by
  obtain ⟨v, u, h1, h2, h3⟩ := h.ex
  exact de_glob h1 h2 (fun F => h3 g F hK) hg hdb
theorem glb_str {K : PySem.W.Frag} {mg : Str → Option Value} {x s : Str} {t : Tok} (h : mg x = some (.str s t)) : Glb K mg x (.str s) := ⟨.str s, _, h, ⟨t, rfl⟩, fun _ _ _ => .str s⟩
/-! ### a def of the text -/
def Def (K : PySem.W.Frag) (mg : Str → Option Value) (x : Str) (st : Stmt) (ps : List Str) : Prop := ∃ f fd, Fun K x x st f fd ∧ mg x = some (.ref f) ∧ Binds K fd ps []
/-! ### the law's own head: the box is made, then the rest -/
def spOpen (K : PySem.W.Frag) : Sp := fun vs H Q _ => ∃ (a : Addr) (ns : List Int), vs = [.ref a] ∧ SqL K H a (ns.map V.int) ∧ ns.length ≤ 63 ∧
  ∀ (b c : Addr) (mk : Int) (H' : Hp), Same H H' → b ≠ c → H' b = some (.lst [.ref c, .int 0, .int 0, .int mk]) → H' c = some (.lst (ns.map V.int)) → 0 ≤ mk → mk < 2147483647 → Q (.ref b) H'
def spLaw (K : PySem.W.Frag) (tb : List (Addr × Str)) : Sp := fun vs H Q _ => ∃ (a : Addr) (ns : List Int), vs = [.ref a] ∧ SqL K H a (ns.map V.int) ∧ ns.length ≤ 63 ∧ LamX.Tabs tb H ∧ ∀ H', Q (.bl true) H'
def tSemS (K : PySem.W.Frag) (cls : CT) (cl : List (Str × Addr)) (E : EK) (m : SM) : TS := fun N σ H => ∃ bx F0 H0 B F S w, bx.2.2.2 = cl ∧ RelS ⟨K, cls, bx⟩ F0 H0 B F w S σ H ∧ PostS ⟨K, cls, bx⟩ F0 H0 B E N (m S w)
section
variable {P : Program} {w : World} {K : PySem.W.Frag} {mg : Str → Option Value} {base : Heap} {cls : CT}
theorem pss_sem {X : Cx} {E : EK} {sts : List Stmt} {m : SM} {cl : List (Str × Addr)} (h : ∀ bx F0 H0, bx.2.2.2 = cl → DSs X ⟨K, cls, bx⟩ E F0 H0 sts m) : PSs X sts (tSemS K cls cl E m) :=
  ⟨fun pins s σ H N I ⟨bx, F0, H0, B, F, S, w, hcl, R, q⟩ => let ⟨_, p, r⟩ := (h bx F0 H0 hcl).run; p.run pins s σ H N I (r N σ H F S w B R q)⟩
/-- the slots at the box's making: the script is not looked at again -/
def lawS (n : Nat) : SL := none :: some (.dat .box) :: List.replicate (n - 2) none
theorem lawS_get {n i : Nat} {sv : SV} (h : (lawS n)[i]? = some (some sv)) : i = 1 ∧ sv = .dat .box := by
  cases i with
  | zero => simp [lawS] at h
  | succ i =>
    cases i with
    | zero => simp [lawS] at h; exact ⟨rfl, h.symm⟩
    | succ i =>
      have h2 : (List.replicate (n - 2) (none : Option SV))[i]? = some (some sv) := h
      rw [List.getElem?_replicate] at h2
      split at h2 <;> cases h2
theorem law_of {x y : Str} {st fst : Stmt} {f : Addr} {fd : FuncData} {N : List Str} {k : Nat} {body : SM} {rest : List Stmt} (F : Fun K x x st f fd) (S : FnScope N [y] (defScope st)) (hN : ∃ N', N = y :: "_law_box" :: N')
    (hst : defBody st = fst :: rest)
    (hfirst : ∀ (cdv : Value) (A : Around) (outer : List Env) (s : Shared) (H : Hp) (E : XK), Room k (A.deeper (envOfC x (defScope st) s.heap.objs.size f cdv)) →
      PS (cxOf (L2.CX P w) P w K mg base N x (defScope st) f cdv A outer s H E) fst (tAsg (tCall (spOpen K) [] E0 (tCons (tVar 0) tNil)) (gName 1)))
    (hbody : ∀ (cdv : Value), CodeIs K f cdv → ∀ (A : Around) (outer : List Env) (s : Shared) (H : Hp) (E : XK) (bx : BQ) (F0 : FH) (H0 : Hp), bx.2.2.2 = (envOfC x (defScope st) s.heap.objs.size f cdv).cells → Room k (A.deeper (envOfC x (defScope st) s.heap.objs.size f cdv)) →
      DSs (cxOf (L2.CX P w) P w K mg base N x (defScope st) f cdv A outer s H E) ⟨K, cls, bx⟩ (kE E) F0 H0 rest body)
    (hm : ∀ w : Bx, w.st = [] → ∃ w', body (lawS N.length) w = .rt (.bl true) w') : FnOk P w K mg base (L2.CX P w) (k + 1) f fd [y] (spLaw K cls.tb) := by
  obtain ⟨N', rfl⟩ := hN
  refine okC F S (fun vs H Q E h => ?_) (fun cdv hcv A outer s H vs Q E hr h => ?_)
  · obtain ⟨a, ns, rfl, _⟩ := h; rfl
  · obtain ⟨a, ns, rfl, hS, hl, ht, q⟩ := h
    rw [hst]
    refine ⟨_, pss_cons (hfirst cdv A outer s H E hr) (pss_sem (cl := (envOfC x (defScope st) s.heap.objs.size f cdv).cells) fun bx F0 H0 hcl => hbody cdv hcv A outer s H E bx F0 H0 hcl hr), ?_⟩
    refine ⟨.ref a, rfl, a, ns, rfl, hS, hl, fun b c mk H1 sm nbc hb hc m0 m1 => ?_⟩
    have hsub : Same (fun z => if z = c then some (HO.lst (ns.map V.int)) else none) H1 := fun z o h => by
      by_cases e : z = c
      · simp only [if_pos e] at h; rw [e, hc]; exact h
      · simp only [if_neg e] at h; cases h
    have hbx : BxOk ⟨K, cls, (b, 0, 0, (envOfC x (defScope st) s.heap.objs.size f cdv).cells)⟩ ⟨fun z => if z = c then some (HO.lst (ns.map V.int)) else none, fun _ => none⟩ ⟨ns, 0, 0, mk, []⟩ H1 :=
      ⟨⟨c, hb, by simp⟩, by simp [nbc], Int.le_refl 0, m0, m1, hl, fun i c h => by simp at h, (fun i a h => nomatch h), (fun i j a h => nomatch h), ht.ext sm, fun a ps h => by
        simp only at h
        split at h <;> cases h⟩
    refine ⟨(b, 0, 0, (envOfC x (defScope st) s.heap.objs.size f cdv).cells), _, H1, _, _, lawS (y :: "_law_box" :: N').length, ⟨ns, 0, 0, mk, []⟩, rfl, ⟨⟨hsub, hbx, ?_, fun i sv hsv => ?_, fun i j ds ds2 v h1 => ?_⟩, Ext.refl hsub hbx, FSame.refl _, fun i ds p h1 => ?_⟩, ?_⟩
    · simp [lawS, L2.start]
    · obtain ⟨rfl, rfl⟩ := lawS_get hsv
      exact ⟨.ref b, by simp [L2.start], DR.box (g := ⟨K, cls, (b, 0, 0, (envOfC x (defScope st) s.heap.objs.size f cdv).cells)⟩)⟩
    · cases (lawS_get h1).2
    · cases (lawS_get h1).2
    · obtain ⟨w', e⟩ := hm ⟨ns, 0, 0, mk, []⟩ rfl
      rw [e]
      intro v H' F' x r
      cases r
      exact q H'
end
theorem cx_false {P : Program} {w : World} {l : List Env} {H : Hp} {s : Shared} {e : Value} {s' : Shared} (h : L2.CX P w l H s (fun _ _ _ => False) e s') : False := by
  obtain ⟨_, _, _, _, _, _, _, _, _, _, _, _, z⟩ := h
  exact z
/-! ### the box's making -/
theorem cut63 {ns : List Int} (h : ns.length ≤ 63) : cutV (ns.map V.int) none (some 63) = ns.map V.int := by
  unfold cutV
  rw [HT.sIx_none, show HT.sIx (ns.map V.int).length (ns.map V.int).length (some 63) = min 63 (ns.map V.int).length from HT.sIx_nat _ _ 63]
  rw [List.length_map, List.drop_zero, Nat.sub_zero]
  apply List.take_of_length_le
  rw [List.length_map]
  omega
end Y
namespace Y
open PySem PySem.Spec PyProof.Rows L2
/-! ### enumerate of a text -/
def ItEt (x : Str) : It := ⟨fun i _ => i < x.cps.size, fun i H v H' => ∃ T c, v = .ref T ∧ H T = none ∧ x.cps[i]? = some c ∧ H' = upd H T (.tup [.int (i : Nat), .str ⟨#[c]⟩]), fun i _ => i = x.cps.size⟩
theorem turn_et {P : Program} {w : World} {K : PySem.W.Frag} {elts : List Expr} {kk : Nat} {tpos : Pos} (x : Str) (t : Tok) (e it : Addr) :
    Turn P w K (.Tuple elts kk tpos) (ItEt x) [e, it] e (fun i h => (∃ old, IsEnum h e it ((i : Nat) : Int) old) ∧ h.IsStrIter it (strIterType x) x t i ∧ e ≠ it) where
  mem := List.mem_cons_self ..
  obj := fun i h st b hb => by
    obtain ⟨⟨old, he⟩, ⟨o, ho, _, hd⟩, _⟩ := st
    rcases List.mem_cons.mp hb with z | z
    · subst z; exact ⟨_, he, fun v q => nomatch q⟩
    · cases List.mem_singleton.mp z; exact ⟨o, ho, fun v q => by rw [hd] at q; cases q⟩
  keep := fun i h h' st k => by
    obtain ⟨⟨old, he⟩, ⟨o, ho, r⟩, hne⟩ := st
    exact ⟨⟨old, k e (by simp) _ he⟩, ⟨o, k it (by simp) _ ho, r⟩, hne⟩
  item := by
    intro X hP hw hK hc i pins s σ H E I hf st hg
    subst hP hw hK
    obtain ⟨⟨old, he⟩, hit, hne⟩ := st
    have hel : e < s.heap.objs.size := Heap.lt_size he
    have hil : it < s.heap.objs.size := by obtain ⟨_, q, _⟩ := hit; exact Heap.lt_size q
    have hne' : e ∉ [it] := fun z => hne (List.mem_singleton.mp z)
    refine wpAny_pyNext_enum_itemD (Draws.text (A := X.A.in1) (I.ok.hd hc) it x t) he hit hg hne hne' fun v h1 tk hv ho hit1 hT hsz hk => ?_
    obtain ⟨c, u, hcx, rfl⟩ := hv
    refine ⟨_, rfl, wpAny_letOwnedTupleGo_enum (s := { s with heap := h1, toks := tk + 1 }) ho fun h2 he2 sb => ?_⟩
    have hT2 := (sb.2 s.heap.objs.size (Nat.ne_of_gt hel)).trans hT
    have out : ∀ b, b ∉ [e, it] → b ≠ e ∧ b ≠ it := fun b hb => ⟨fun z => hb (by simp [z]), fun z => hb (by simp [z])⟩
    have new : ObjOk X.prog X.w (upd H s.heap.objs.size (.tup [.int (i : Nat), .str ⟨#[c]⟩])) h2 s.heap.objs.size (.tup [.int (i : Nat), .str ⟨#[c]⟩]) :=
      ⟨by show 2 ≤ sizeLine; decide, [.int i tk, .str ⟨#[c]⟩ u], .cons ⟨_, rfl⟩ (.cons ⟨_, rfl⟩ .nil), ⟨_, hT2, rfl, _, rfl⟩⟩
    have I1 : L2.Inv X pins σ (upd H s.heap.objs.size (.tup [.int (i : Nat), .str ⟨#[c]⟩])) { s with heap := h2, toks := tk + 1 } :=
      I.turnedNew (ch := [e, it]) (fun b ob hb q => (sb.2 b (out b hb).1).trans (hk b ob (out b hb).1 (out b hb).2 q)) hf (Nat.le_refl _) new
    refine ⟨.ref s.heap.objs.size, _, I1, rfl, ⟨_, c, rfl, I.hok.fresh (Nat.le_refl _), hcx, rfl⟩, ⟨⟨_, by rw [show ((i + 1 : Nat) : Int) = (i : Int) + 1 by omega]; exact he2⟩, ?_, hne⟩, fun b hb => ?_⟩
    · obtain ⟨o, q, r⟩ := hit1
      exact ⟨o, (sb.2 it (Ne.symm hne)).trans q, r⟩
    · have hb' : b < s.heap.objs.size := by
        rcases List.mem_cons.mp hb with z | z
        · rw [z]; exact hel
        · rw [List.mem_singleton.mp z]; exact hil
      rw [upd_ne (Nat.ne_of_lt hb')]
      exact (hf b hb).1
  done := by
    intro X hP hw hK hc i pins s σ H E I hf st hg
    subst hP hw hK
    obtain ⟨⟨old, he⟩, hit, hne⟩ := st
    have hg : i = x.cps.size := hg
    subst hg
    obtain ⟨f0, f1, f2, f3, f4, f5⟩ := hf it (by simp)
    exact wpAny_pyNext_enum_endD (Draws.text (A := X.A.in1) (I.ok.hd hc) it x t) he hit fun h' eb => ⟨rfl, I.turned (t' := s.toks) (fun b o hb q => eb b o hb q) f0 f1 f3 f4 f5⟩
  self := fun A i s Q E st h => let ⟨⟨_, he⟩, _⟩ := st; wpAny_pyIter_enum he h
section
variable {X : Cx} {g : G} {E : EK} {a : Expr} {pos p : Pos} {fa : EM}
theorem yld_et {F : FH} (z : Str) : Yld g F (ItEt z) (numbered (signs z)) := by
  refine ⟨fun i d F2 H2 s1 s2 hd => ?_, fun F2 H2 s1 s2 => ?_⟩
  · obtain ⟨d', hd', rfl⟩ := num_get hd
    unfold signs at hd'
    rw [List.getElem?_map] at hd'
    obtain ⟨c, hc, rfl⟩ := Option.map_eq_some_iff.mp hd'
    have hc' : z.cps[i]? = some c := by simpa using hc
    refine ⟨(Array.getElem?_eq_some_iff.mp hc').1, fun x H3 hy => ?_⟩
    obtain ⟨T, c2, e1, n, e2, e3⟩ := hy
    rw [hc'] at e2; cases e2
    exact .inr ⟨T, _, _, e1, n, e3, .cons (.int _) (.cons (.str _) .nil), rfl⟩
  · show (numbered (signs z)).length = z.cps.size
    rw [num_len]
    simp [signs]
def enumOf : D → Option (List D)
  | .str z => some (numbered (signs z))
  | .lst ds => some (numbered ds)
  | _ => none
def iEnumD (f : EM) : AM := fun S w => (f S w).bind fun d w1 => R.ofO (enumOf d) w1
theorem di_enum {elts : List Expr} {kk : Nat} {tpos : Pos} (hK : g.K = X.K) (hm : X.mg "enumerate" = none) (ha : DE X g E a fa) (hg : Gl X "enumerate" := by rfl) (hs : starEach [a] X.env = [(false, eval a X.env)] := by rfl) :
    DI X g E (.Tuple elts kk tpos) (.Call (.Name "enumerate" p) [a] [] pos) (iEnumD fa) := by
  obtain ⟨ta, pa, ra⟩ := ha.run
  have pA : PA X [a] (tCons ta tNil) := pa_cons pa pa_nil (by rw [hs]; rfl)
  refine ⟨fun σ H Rq => tCons ta tNil σ H fun vs H1 => ∃ x, vs = [x] ∧ ((∃ a xs, x = .ref a ∧ SqL X.K H1 a xs ∧ Rq (Ite X.K a) H1) ∨ ∃ z, x = .str z ∧ Rq (ItEt z) H1), ⟨fun pins s σ H Rq I h => ?_⟩, fun σ H Rq F S w R h => ?_⟩
  · refine Call_ (ld_blt I hg hm boot_enumerate (PyProof.Rows.callWith_type1 (thn (pA.run pos pins s σ H _ I h) fun us s1 ⟨vs, H1, I1, r1, x, ex, q1⟩ => ?_) hs rfl))
    subst ex
    obtain ⟨u, rfl, ru⟩ := vals1 r1
    have two : ∀ b, b ∈ [s1.heap.objs.size + 1, s1.heap.objs.size] → FpOk X pins H1 b := fun b hb => by
      have hle : s1.heap.objs.size ≤ b := by
        rcases List.mem_cons.mp hb with z | z
        · omega
        · have := List.mem_singleton.mp z; omega
      exact I1.fpOk hle (I1.hok.fresh hle)
    rcases q1 with ⟨a, xs, rfl, hq, q⟩ | ⟨z, rfl, q⟩
    · cases ru
      obtain ⟨its, rv, p', hz⟩ := I1.list hq
      exact call_enumerate_list p'.isList fun h' he hit hsz hk => wpAny_pyIter_enum he ⟨_, _, _, _, H1, rfl, I1.kept (t' := s1.toks) hk, turn_enum a (s1.heap.objs.size + 1) s1.heap.objs.size, ⟨⟨.none, he⟩, hit, Nat.succ_ne_self _⟩, two, q⟩
    · obtain ⟨t, rfl⟩ := ru
      exact call_enumerate_str fun h' he hit hsz hk => wpAny_pyIter_enum he ⟨_, _, _, _, H1, rfl, I1.kept (t' := s1.toks) hk, turn_et z t (s1.heap.objs.size + 1) s1.heap.objs.size, ⟨⟨.none, he⟩, hit, Nat.succ_ne_self _⟩, two, q⟩
  · refine ra σ H _ F S w R (PostG.imp (PostG.bind h) fun d w1 _ h1 v H1 F1 x1 r1 => ?_)
    obtain ⟨ds, hz, q⟩ := post_ofO' h1
    rw [← hK]
    cases r1 with
    | lst h r => cases hz; exact ⟨_, rfl, .inl ⟨_, _, rfl, .inl (.inl (x1.sub _ _ h)), q _ H1 F1 x1 (yld_enum h r)⟩⟩
    | str z => cases hz; exact ⟨_, rfl, .inr ⟨_, rfl, q _ H1 F1 x1 (yld_et z)⟩⟩
    | _ => cases hz
end
end Y
namespace Y
open PySem PySem.Spec PyProof.Rows L2
/-! ### a written dict of texts -/
def tabGet (t : List (Str × Str)) (z : Str) : Option Str := (t.find? fun p => p.1 == z).map (·.2)
theorem find_tab (z : Str) : ∀ {l : List DictEntry} {t : List (Str × Str)}, l.map kvOf = t.map some →
    (∃ v k, tabGet t z = some v ∧ (l.find? fun e => Value.isStrOf z e.key).map (·.val) = some (.str v k)) ∨ (tabGet t z = none ∧ (l.find? fun e => Value.isStrOf z e.key).map (·.val) = none)
  | [], [], _ => .inr ⟨rfl, rfl⟩
  | [], _ :: _, h => by cases h
  | _ :: _, [], h => by cases h
  | e :: l, p :: t, h => by
    rw [List.map_cons, List.map_cons] at h
    injection h with h1 h2
    unfold kvOf at h1
    split at h1
    · rename_i k tk v tv q1 q2
      cases h1
      by_cases hz : (k == z) = true
      · refine .inl ⟨v, tv, ?_, ?_⟩
        · unfold tabGet; rw [List.find?_cons_of_pos (by exact hz)]; rfl
        · rw [List.find?_cons_of_pos (by rw [q1]; exact hz)]; simp [q2]
      · have ih := find_tab z h2
        unfold tabGet at ih ⊢
        rw [List.find?_cons_of_neg (by exact hz), List.find?_cons_of_neg (by rw [q1]; exact hz)]
        exact ih
    · cases h1
structure Tab (w : World) (K : PySem.W.Frag) (mg : Str → Option Value) (x : Str) (t : List (Str × Str)) : Prop where
  ex : ∃ a es n, mg x = some (.ref a) ∧ K.lookup a = some ⟨.type "dict", none, .dict es n, #[]⟩ ∧ PySem.W.KeysLit w.params es.toList ∧ (a == sysModules) = false ∧ es.toList.map kvOf = t.map some
theorem tab_find {es : Array DictEntry} {t : List (Str × Str)} (h : es.toList.map kvOf = t.map some) (z : Str) : (∃ v k, tabGet t z = some v ∧ findBy Value.isStrOf es z = some (.str v k)) ∨ (tabGet t z = none ∧ findBy Value.isStrOf es z = none) := by
  obtain ⟨l⟩ := es
  have := find_tab z h
  unfold findBy
  rw [List.find?_toArray]
  exact this
def mTab (t : List (Str × Str)) : D → Option D
  | .str z => (tabGet t z).map D.str
  | _ => none
def mTabD (t : List (Str × Str)) : D → D → Option D
  | .str z, d => some (match tabGet t z with | some v => .str v | none => d)
  | _, _ => none
section
variable {X : Cx} {g : G} {E : EK} {b c : Expr} {fb fc : EM} {x : Str} {p pos apos : Pos} {t : List (Str × Str)}
def rTab (a : Addr) (t : List (Str × Str)) : R2 := fun x y H Q => ∃ z v, x = .ref a ∧ y = .str z ∧ tabGet t z = some v ∧ Q (.str v) H
theorem de_tab (T : Tab X.w X.K X.mg x t) (hb : DE X g E b fb) (hg : Gl X x := by rfl) (hdb : (x == ("__debug__" : Str)) = false := by decide) (hs : PlainIx b := by exact fun _ _ => rfl) : DE X g E (.Subscript (.Name x p) b pos) (e1 (mTab t) fb) := by
  obtain ⟨a, es, n, h1, h2, h3, h4, h5⟩ := T.ex
  obtain ⟨tb, pb, rb⟩ := hb.run
  have hr : IxR X (rTab a t) := by
    intro value slice pins s σ H x y v u Q I rx ry h hs
    obtain ⟨z, r, rfl, rfl, e, q⟩ := h
    obtain rfl : v = Value.ref a := rx
    obtain ⟨tk, rfl⟩ := ry
    have hm := PySem.W.mapOf_K (prog := X.prog) (w := X.w) I.kIn h2 h3
    rcases tab_find h5 z with ⟨v, k, e1, e2⟩ | ⟨e1, e2⟩
    · obtain rfl : r = v := Option.some.inj (e.symm.trans e1)
      exact tail_any hm.typeIs slot_dict_getitem.lookup (wpAny_getItem_of (strKind_is X.prog X.w z tk) hm e2 ⟨.str r, H, I.tok _, ⟨k, rfl⟩, q⟩) hs
    · rw [e1] at e; cases e
  refine ⟨_, pe_ix hr (pe_glob hg h1 (v := .ref a) rfl hdb) pb hs, fun σ H Q F S w R h => ?_⟩
  refine rb σ H _ F S w R (PostG.imp (PostG.bind h) fun d w1 hd h1 v H1 F1 x1 r1 => ?_)
  clear hd
  obtain ⟨z, hz, q⟩ := post_ofO h1
  unfold mTab at hz
  split at hz
  · rename_i y
    cases r1
    cases e : tabGet t y with
    | none => rw [e] at hz; cases hz
    | some v => rw [e] at hz; cases hz; exact ⟨y, v, rfl, rfl, e, q _ _ _ x1 (.str v)⟩
  · cases hz
def tTabD (t : List (Str × Str)) (tb tc : TE) : TE := fun σ H Q => tb σ H fun y H1 => tc σ H1 fun z H2 => ∃ k, y = .str k ∧ Q (match tabGet t k with | some v => .str v | none => z) H2
theorem de_tabD (T : Tab X.w X.K X.mg x t) (hb : DE X g E b fb) (hc : DE X g E c fc) (m : M2 X (.Name x p) "get" apos b c pos := by exact ⟨rfl, rfl, rfl, rfl⟩) (hg : Gl X x := by rfl) (hdb : (x == ("__debug__" : Str)) = false := by decide) :
    DE X g E (.Call (.Attribute (.Name x p) "get" apos) [b, c] [] pos) (eBin (mTabD t) fb fc) := by
  obtain ⟨a, es, n, h1, h2, h3, h4, h5⟩ := T.ex
  obtain ⟨tb, pb, rb⟩ := hb.run
  obtain ⟨tc, pc, rc⟩ := hc.run
  have ho : PE X (.Name x p) _ := pe_glob hg h1 (v := .ref a) rfl hdb
  refine ⟨tTabD t tb tc, ⟨fun pins s σ H Q I h => ?_⟩, fun σ H Q F S w R h => ?_⟩
  · refine wpAny_Call_method m.base m.few m.line PySem.F.plainAttrs_dict PySem.F.slot_dict_get PySem.F.type_dict_get (thn (ho.run pins s σ H (fun v H' => v = .ref a ∧ H' = H) I ⟨rfl, rfl⟩) fun u s1 ⟨x, H1, I1, rx, ex, eh⟩ => ?_)
    subst ex
    subst eh
    obtain rfl : u = Value.ref a := rx
    have hm := PySem.W.mapOf_K (prog := X.prog) (w := X.w) I1.kIn h2 h3
    refine ⟨hm.typeIs, fun b e => ?_, ?_⟩
    · cases e; exact ⟨_, I1.kIn _ _ h2, rfl⟩
    rw [m.trees]
    refine Calls.callWith_builtin rfl (Calls.evalArgs_plain (Calls.spliced_cons (thn (pb.run pins s1 σ H1 _ I1 h) fun iv s2 ⟨y, H2, I2, ry, q2⟩ =>
      Calls.spliced_cons (thn (pc.run pins s2 σ H2 _ I2 q2) fun fv s3 ⟨z, H3, I3, rz, k, ek, q3⟩ => Calls.spliced_nil ?_))))
    subst ek
    obtain ⟨tk, rfl⟩ := (show ∃ t, iv = Value.str k t from ry)
    have hm3 := PySem.W.mapOf_K (prog := X.prog) (w := X.w) I3.kIn h2 h3
    refine call_meetsIn PySem.F.slot_dict_get hm3.typeIs PySem.F.entry_dict_get (PySem.F.args_dict_get_3 _ _ _) (meets_dict_get_default (strKind X.prog X.w) a (strKind_is X.prog X.w k tk) h4 fv) ⟨_, hm3, ?_⟩
    rcases tab_find h5 k with ⟨v, j, e1, e2⟩ | ⟨e1, e2⟩
    · rw [e2]; rw [e1] at q3
      exact ⟨.str v, H3, I3.tok _, ⟨j, rfl⟩, q3⟩
    · rw [e2]; rw [e1] at q3
      exact ⟨z, H3, I3.tok _, rz, q3⟩
  · refine rb σ H _ F S w R (PostG.imp (PostG.bind h) fun d w1 hd h1 v H1 F1 x1 r1 => ?_)
    clear hd
    refine rc σ H1 _ F1 S w1 (R.ext x1) (PostG.ext x1 (PostG.bind h1) fun e w2 h2 u H2 F2 x2 r2 => ?_)
    obtain ⟨z, hz, q⟩ := post_ofO h2
    unfold mTabD at hz
    split at hz
    · rename_i y
      cases r1
      refine ⟨y, rfl, ?_⟩
      cases hz
      cases e1 : tabGet t y with
      | none => rw [e1] at q; exact q _ _ _ (x1.trans x2) r2
      | some v => rw [e1] at q; exact q _ _ _ (x1.trans x2) (.str v)
    · cases hz
end
end Y
namespace Y
open PySem PySem.Spec PyProof.Rows L2
/-! ### a text turned round -/
def revS (z : Str) : Str := ⟨z.cps.toList.reverse.toArray⟩
theorem rev_pick (z : Str) : (⟨((Builtin.Str.strSliceIndices none none (-1) z.length).filterMap (z.cps[·]?)).toArray⟩ : Str) = revS z := by
  have e : Builtin.Str.strSliceIndices none none (-1) z.length = (List.range z.cps.size).reverse := by
    show sliceRange ((z.cps.size : Int) - 1) (-1) (-1) = _
    rw [PySem.W.krv_sliceRange, PySem.W.krv_range]
  rw [e, List.filterMap_reverse, PySem.W.krv_all]
  rfl
def tRevS (te : TE) : TE := fun σ H Q => te σ H fun x H1 => ∃ z, x = .str z ∧ z.length ≤ sizeLine ∧ Q (.str (revS z)) H1
def mRev : D → Option D
  | .str z => if z.length ≤ sizeN then some (.str (revS z)) else none
  | _ => none
section
variable {X : Cx} {g : G} {E : EK} {e : Expr} {f : EM} {te : TE} {k : Nat} {p1 p2 p3 pos : Pos}
theorem pe_revS (he : PE X e te) : PE X (.Subscript e (.Slice none none (some (.UnaryOp .USub (.Constant (.int 1) k p1) p2)) p3) pos) (tRevS te) := by
  refine ⟨fun pins s σ H Q I h => ?_⟩
  refine Subscript_ (thn (he.run pins s σ H _ I h) fun v s1 ⟨x, H1, I1, r1, q1⟩ => ?_)
  obtain ⟨z, ex, hz, q⟩ := q1
  subst ex
  obtain ⟨t, rfl⟩ := (show ∃ t, v = Value.str z t from r1)
  have hst : PO X (some (.UnaryOp .USub (.Constant (.int 1) k p1) p2)) (tPart (tUn (rU fun i => .int (-i)) (tC (.int 1)))) := po_some (pe_un un_neg pe_int)
  refine wpAny_Slice (thn (po_none.run pins s1 σ H1 (fun o H2 => o = none ∧ H2 = H1) I1 ⟨rfl, rfl⟩) fun vl s2 ⟨l, H2, I2, pl, el, e2⟩ => ?_)
  subst el e2
  refine thn (po_none.run pins s2 σ H2 (fun o H3 => o = none ∧ H3 = H2) I2 ⟨rfl, rfl⟩) fun vu s3 ⟨u, H3, I3, pu, eu, e3⟩ => ?_
  subst eu e3
  refine thn (hst.run pins s3 σ H3 (fun o H4 => o = some (-1) ∧ H4 = H3) I3 ⟨1, rfl, -1, rfl, rfl, rfl⟩) fun vs s4 ⟨o, H4, I4, ps, eo, e4⟩ => ?_
  subst eo e4
  have I5 : Inv X pins σ H4 { s4 with heap := s4.heap.push { cls := .type "slice", data := .fields #[vl, vu, vs] } } := I4.kept (t' := s4.toks) fun b ob q => Heap.get?_push_of_some _ q
  obtain ⟨l, rfl, hl⟩ := IsPart.raw pl
  obtain ⟨u, rfl, hu⟩ := IsPart.raw pu
  obtain ⟨st, rfl, hs⟩ := IsPart.raw ps
  show wpAny (model X.prog X.w) X.A (subscriptTail e (.Slice none none (some (.UnaryOp .USub (.Constant (.int 1) k p1) p2)) p3) (.str z t) (.ref s4.heap.objs.size)) (EP X pins σ Q) X.xe { s4 with heap := s4.heap.push { cls := .type "slice", data := .fields #[partValue l, partValue u, partValue st] } }
  refine tail_any (ops := [.str z t, .ref s4.heap.objs.size]) (typeIs_str _ _ _) (F.slot_str_getitem.lookup) ?_ (by with_unfolding_all rfl)
  refine wpAny_getItem_str_slice (l := l) (u := u) (st := st) ⟨_, Heap.get?_push_size _ rfl, rfl, rfl⟩ (by rw [hs]; rfl) ?_
  have hp : slicePicked z l u st = Builtin.Str.strSliceIndices none none (-1) z.length := by
    unfold slicePicked
    rw [hl, hu, hs]
    rfl
  have hm : sliceMade z t l u st = Made.str (revS z) := by
    unfold sliceMade
    rw [hs, hp, rev_pick]
    rfl
  rw [hm]
  refine ⟨?_, .str _, H4, I5.tok _, ⟨_, rfl⟩, q⟩
  show (revS z).length ≤ sizeLine
  have : (revS z).length = z.length := by simp [revS, Str.length]
  rw [this]; exact hz
theorem de_rev (he : DE X g E e f) : DE X g E (.Subscript e (.Slice none none (some (.UnaryOp .USub (.Constant (.int 1) k p1) p2)) p3) pos) (e1 mRev f) := by
  obtain ⟨t, p, r⟩ := he.run
  refine ⟨_, pe_revS p, fun σ H Q F S w R h => ?_⟩
  refine r σ H _ F S w R (PostG.imp (PostG.bind h) fun d w1 hd h1 v H1 F1 x1 r1 => ?_)
  clear hd
  obtain ⟨z, hz, q⟩ := post_ofO h1
  unfold mRev at hz
  split at hz
  · rename_i y
    split at hz
    · rename_i hy
      cases r1; cases hz
      exact ⟨y, rfl, hy, q _ _ _ x1 (.str _)⟩
    · cases hz
  · cases hz
end
end Y
namespace Y
open PySem PySem.Spec PyProof.Rows L2
theorem u1 {k : Nat} {A : Around} (r : Room k A) : A.units + 1 < cLine := by have := r.un; omega
/-! ### a tuple of the module -/
theorem glb_tup {K : PySem.W.Frag} {mg : Str → Option Value} {x : Str} {a : Addr} {od : Option Addr} {its : Array Value} {n : Nat} {sl : Array (Option Value)} {xs : List V} {ds : List D} (h : mg x = some (.ref a)) (hl : K.lookup a = some ⟨.type "tuple", od, .seq its n, sl⟩) (hv : Vals xs its.toList) (hs : its.size ≤ sizeLine)
    (hd : ∀ (g : G) (F : FH), DRs g F xs ds) : Glb K mg x (.tup ds) :=
  ⟨.ref a, _, h, rfl, fun g F e => .tup (.inr ⟨_, its, n, e ▸ hl, rfl, rfl, hs, hv⟩) (hd g F)⟩
/-! ### a written local dict of texts -/
def dTab (t : List (Str × Str)) : D := .dct (t.map fun p => (Sum.inr p.1, .str p.2))
def kvT (t : List (Str × Str)) : List (Key × V) := t.map fun p => (Sum.inr p.1, V.str p.2)
theorem drk_tab {g : G} {F : FH} : ∀ t : List (Str × Str), DRk g F (kvT t) (t.map fun p => (Sum.inr p.1, D.str p.2))
  | [] => .nil
  | _ :: t => .cons (.str _) (drk_tab t)
theorem DRk.val {g : G} {F : FH} (k : Key) : ∀ {xs : List (Key × V)} {ds : List (Key × D)}, DRk g F xs ds → (∃ v d, valV xs k = some v ∧ (ds.find? fun kv => decide (kv.1 = k)).map (·.2) = some d ∧ DR g F v d) ∨ (valV xs k = none ∧ (ds.find? fun kv => decide (kv.1 = k)).map (·.2) = none)
  | _, _, .nil => .inr ⟨rfl, rfl⟩
  | _, _, .cons (n := n) (v := v) (d := d) r t => by
    by_cases e : n = k
    · exact .inl ⟨v, d, valV_pos e, by simp [List.find?_cons, e], r⟩
    · rw [valV_neg e, List.find?_cons_of_neg (by simpa using e)]
      exact DRk.val k t
section
variable {X : Cx} {g : G} {E : EK} {e a b c : Expr} {pos p apos : Pos} {fa fb fc f : EM}
/-- the pairs of a written table -/
def exT (t : List (Str × Str × Nat × Pos × Nat × Pos)) : List (Option Expr) × List Expr := (t.map fun q => some (.Constant (.str q.1) q.2.2.1 q.2.2.2.1), t.map fun q => .Constant (.str q.2.1) q.2.2.2.2.1 q.2.2.2.2.2)
theorem pps_tab : ∀ t : List (Str × Str × Nat × Pos × Nat × Pos), PPs X pos (exT t).1 (exT t).2 (t.map fun q => (tC (.str q.1), tC (.str q.2.1)))
  | [] => pps_nil
  | q :: t => pps_cons pe_str pe_str (pps_tab t)
theorem pairs_tab {σ : L2.St} {H : Hp} {Q : List (V × V) → Hp → Prop} : ∀ {t : List (Str × Str × Nat × Pos × Nat × Pos)}, Q (t.map fun q => (V.str q.1, V.str q.2.1)) H → tPairs (t.map fun q => (tC (.str q.1), tC (.str q.2.1))) σ H Q
  | [], h => h
  | q :: t, h => pairs_tab (Q := fun ps H3 => Q ((.str q.1, .str q.2.1) :: ps) H3) h
def noDup : List (Str × Str) → Bool
  | [] => true
  | p :: t => t.all (fun q => q.1 != p.1) && noDup t
theorem merge_tab : ∀ (t : List (Str × Str)) (acc : List (Key × V)), noDup t = true → (∀ p ∈ t, ∀ kv ∈ acc, kv.1 ≠ Sum.inr p.1) → mergeK acc (kvT t) = acc ++ kvT t
  | [], acc, _, _ => (List.append_nil acc).symm
  | p :: t, acc, hd, ha => by
    unfold noDup at hd
    rw [Bool.and_eq_true, List.all_eq_true] at hd
    have h1 : putK acc (Sum.inr p.1) (V.str p.2) = acc ++ [(Sum.inr p.1, V.str p.2)] := by
      unfold putK
      rw [if_neg]
      rw [List.any_eq_true]
      rintro ⟨kv, hk, h⟩
      exact ha p (List.mem_cons_self ..) kv hk (by simpa using h)
    have h2 := merge_tab t (acc ++ [(Sum.inr p.1, V.str p.2)]) hd.2 fun q hq kv hk => by
      rcases List.mem_append.mp hk with z | z
      · exact ha q (List.mem_cons_of_mem _ hq) kv z
      · rw [List.mem_singleton.mp z]
        intro e
        have := hd.1 q hq
        simp only [bne_iff_ne, ne_eq] at this
        exact this (Sum.inr.inj e).symm
    show mergeK (putK acc (Sum.inr p.1) (V.str p.2)) (kvT t) = _
    rw [h1, h2, List.append_assoc]
    rfl
theorem de_dctC {ks : List (Option Expr)} {vs : List Expr} (t : List (Str × Str)) (u : List (Str × Str × Nat × Pos × Nat × Pos)) (hu : exT u = (ks, vs) := by rfl) (ht : (u.map fun q => (q.1, q.2.1)) = t := by rfl) (nd : noDup t = true := by decide +kernel) (hl : u.length ≤ 15 := by decide) (h0 : u ≠ [] := by simp) : DE X g E (.Dict ks vs pos) (eC (dTab t)) := by
  cases hu
  subst ht
  refine ⟨_, pe_disp (pps_tab u) (by simp [exT]) (by simp [exT]) (by simpa [exT] using h0) (by simpa [exT] using hl), fun σ H Q F S w R h => ?_⟩
  intro p np
  refine pairs_tab ⟨upd_same, kvT (u.map fun q => (q.1, q.2.1)), by simp [kvT, kV], by simpa [kvT] using hl, ?_⟩
  rw [merge_tab _ [] nd (fun _ _ _ h => nomatch h), List.nil_append]
  have hh : upd (upd H p (.dK [])) p (.dK (kvT (u.map fun q => (q.1, q.2.1)))) = upd H p (.dK (kvT (u.map fun q => (q.1, q.2.1)))) := by
    funext z
    by_cases e : z = p
    · subst e; rw [upd_same, upd_same]
    · rw [upd_ne e, upd_ne e, upd_ne e]
  rw [hh]
  have x := Ext.lay (o := .dK (kvT (u.map fun q => (q.1, q.2.1)))) R.sub R.bx np
  exact h _ _ _ x (.dct upd_same (drk_tab _))
def keyOf : D → Option Key
  | .int i => some (Sum.inl i)
  | .str s => some (Sum.inr s)
  | _ => none
def isDct : D → Bool
  | .dct _ => true
  | _ => false
def dGet (kvs : List (Key × D)) (k : Key) : Option D := (kvs.find? fun kv => decide (kv.1 = k)).map (·.2)
def mDGet2 (d k z : D) : Option D := match d with
  | .dct kvs => (keyOf k).map fun k => (dGet kvs k).getD z
  | _ => none
def eDGet2 (fa fb fc : EM) : EM := fun S w => (fa S w).bind fun d w1 => if isDct d then (fb S w1).bind fun k w2 => (fc S w2).bind fun z w3 => R.ofO (mDGet2 d k z) w3 else .bad
theorem de_dget2 (hu : X.A.units + 1 < cLine) (ha : DE X g E a fa) (hb : DE X g E b fb) (hc : DE X g E c fc) (m : M2 X a "get" apos b c pos := by exact ⟨rfl, rfl, rfl, rfl⟩) : DE X g E (.Call (.Attribute a "get" apos) [b, c] [] pos) (eDGet2 fa fb fc) := by
  obtain ⟨ta, pa, ra⟩ := ha.run
  obtain ⟨tb, pb, rb⟩ := hb.run
  obtain ⟨tc, pc, rc⟩ := hc.run
  refine ⟨_, pe_dget2 hu pa pb pc m, fun σ H Q F S w R h => ?_⟩
  refine ra σ H _ F S w R (PostG.imp (PostG.bind h) fun d w1 hd h1 v H1 F1 x1 r1 => ?_)
  clear hd
  by_cases hd : isDct d = true
  · rw [if_pos hd] at h1
    cases r1 with
    | @dct q xs ds hq rd =>
      refine ⟨q, rfl, .inl ⟨xs, .inl (x1.sub _ _ hq)⟩, ?_⟩
      refine rb σ H1 _ F1 S w1 (R.ext x1) (PostG.ext x1 (PostG.bind h1) fun e w2 h2 u H2 F2 x2 r2 => ?_)
      have x12 := x1.trans x2
      refine rc σ H2 _ F2 S w2 (R.ext x12) (PostG.ext x12 (PostG.bind h2) fun z w3 h3 y H3 F3 x3 r3 => ?_)
      obtain ⟨z', hz, q'⟩ := post_ofO h3
      have hq3 : H3 q = some (.dK xs) := x3.sub _ _ (x3.ff.fz _ _ (x2.ff.fz _ _ hq))
      have rd3 := rd.mono (x2.ff.trans x3.ff)
      unfold mDGet2 at hz
      obtain ⟨k, hk, e⟩ := Option.map_eq_some_iff.mp hz
      have hu' : u = kV k := by
        unfold keyOf at hk
        cases r2 with
        | int i => cases hk; rfl
        | str i => cases hk; rfl
        | _ => cases hk
      subst hu'
      refine ⟨valV xs k, DGet.k hq3, ?_⟩
      subst e
      rcases rd3.val k with ⟨v, d, e1, e2, e3⟩ | ⟨e1, e2⟩
      · rw [e1]; unfold dGet at q'; rw [e2] at q'; exact q' _ _ _ (x12.trans x3) e3
      · rw [e1]; unfold dGet at q'; rw [e2] at q'; exact q' _ _ _ (x12.trans x3) r3
    | _ => cases hd
  · rw [if_neg hd] at h1; exact h1.elim
end
end Y
namespace Y
open PySem PySem.Spec PyProof.Rows L2
/-! ### objects that are not changed any more -/
def isObj (c m : Str) : D → Bool
  | .obj c' fs => decide (c' = c) && (fs.lookup m).isNone
  | _ => false
def isCls (c : Str) : D → Bool
  | .obj c' _ => decide (c' = c)
  | _ => false
section
variable {g : G} {F : FH}
theorem DR.isObj {c m : Str} {v : V} {d : D} (r : DR g F v d) (h : Y.isObj c m d = true) : ∃ a C dx fs, v = .ref a ∧ g.cls c = some C ∧ F a = some (.ins C dx fs) ∧ fs.lookup m = none := by
  cases r with
  | obj h1 h2 h3 rf =>
    unfold Y.isObj at h
    rw [Bool.and_eq_true, decide_eq_true_iff] at h
    obtain ⟨rfl, hm⟩ := h
    exact ⟨_, _, _, _, rfl, h3, h1, rf.lookup_none (Option.isNone_iff_eq_none.mp hm)⟩
  | _ => cases h
theorem DR.isCls {c : Str} {v : V} {d : D} (r : DR g F v d) (h : Y.isCls c d = true) : ∃ a C dx fs, v = .ref a ∧ g.cls c = some C ∧ F a = some (.ins C dx fs) := by
  cases r with
  | obj h1 h2 h3 rf =>
    have h : _ = c := of_decide_eq_true h
    subst h
    exact ⟨_, _, _, _, rfl, h3, h1⟩
  | _ => cases h
end
/-! ### methods -/
structure MthK (P : Program) (w : World) (K : PySem.W.Frag) (mg : Str → Option Value) (base : Heap) (cls : CT) (c m : Str) (k n : Nat) (mm : List D → Bx → R D) : Prop where
  ex : ∃ (C f : Addr) (fd : FuncData) (ps : List Str), cls c = some C ∧ Cls K C ∧ Meth K C m f ∧ FnOk P w K mg base (L2.CX P w) k f fd ps (spM K cls n mm) ∧ Binds K fd ps []
def eMeth (c m : Str) (n : Nat) (mm : List D → Bx → R D) (fo : EM) (fs : AM) : EM := fun S w => (fo S w).bind fun d w1 => if isObj c m d then (fs S w1).bind fun ds w2 => if ds.length + 1 = n then mm (d :: ds) w2 else .bad else .bad
section
variable {X : Cx} {g : G} {E : EK} {e e2 a b o : Expr} {es : List Expr} {pos p p2 apos : Pos} {fa fb fo f : EM} {fs : AM} {x c m : Str} {k n : Nat} {mm : List D → Bx → R D}
theorem meth_run {E : XK} {C : Addr} {ta : TE} {t : TA} (hK : g.K = X.K) (hc : g.cls c = some C) (ro : ∀ σ H Q F S w, Rel g F w S σ H → Post g F H Q E (fo S w) → ta σ H Q) (ra : ∀ σ H Q F S w, Rel g F w S σ H → PostA g F H Q E (fs S w) → t σ H Q) :
    ∀ σ H Q F S w, Rel g F w S σ H → Post g F H Q E (eMeth c m n mm fo fs S w) → tMeth C m (spM X.K g.cls n mm) [] E ta t σ H Q := by
  intro σ H Q F S w R h
  refine ro σ H _ F S w R (PostG.imp (PostG.bind h) fun d w1 hd h1 v H1 F1 x1 r1 => ?_)
  clear hd
  by_cases hd : isObj c m d = true
  · rw [if_pos hd] at h1
    obtain ⟨q, C', dx, vs, rfl, hc', hq, hl⟩ := r1.isObj hd
    obtain rfl : C' = C := Option.some.inj (hc'.symm.trans hc)
    refine ⟨q, dx, vs, rfl, x1.sub _ _ hq, hl, ra σ H1 _ F1 S w1 (R.ext x1) (PostG.ext x1 (PostG.bind h1) fun ds w2 h2 us H2 F2 x2 r2 => ?_)⟩
    by_cases hn : ds.length + 1 = n
    · rw [if_pos hn] at h2
      show spM X.K g.cls n mm (.ref q :: (us ++ [])) H2 Q E
      rw [List.append_nil, ← hK]
      exact ⟨by rw [List.length_cons, r2.length]; exact hn, g.bq, F2, d :: ds, w2, x2.sub, x2.bx, .cons (r1.mono x2.ff) r2, Post.of (x1.trans x2) h2⟩
    · rw [if_neg hn] at h2; exact h2.elim
  · rw [if_neg hd] at h1; exact h1.elim
theorem de_meth {E : XK} (hK : g.K = X.K) (M : MthK X.prog X.w X.K X.mg X.base g.cls c m k n mm) (hr : Room k X.A) (hx : Passes (L2.CX X.prog X.w) X E) (ho : DE X g (kE E) o fo) (ha : DA X g (kE E) (e :: es) fs)
    (hst : starEach (e :: es) X.env = (false, eval e X.env) :: starEach es X.env := by rfl) (hpl : (backTo pos (starEach es X.env)).any (·.1) = false := by rfl)
    (ht : ∀ (sp : Sp) (C f : Addr) (fd : FuncData) (ps : List Str) (ta : TE) (t : TA), Cls X.K C → Meth X.K C m f → FnOk X.prog X.w X.K X.mg X.base (L2.CX X.prog X.w) k f fd ps sp → Binds X.K fd ps [] → PE X o ta → PA X (e :: es) t → Room k X.A → Passes (L2.CX X.prog X.w) X E → PE X (.Call (.Attribute o m apos) (e :: es) [] pos) (tMeth C m sp [] E ta t) := by exact fun _ _ _ _ _ _ _ c hm F hb po pa hr hx => pe_meth po c hm F hr hb .nil hx pa) :
    DE X g (kE E) (.Call (.Attribute o m apos) (e :: es) [] pos) (eMeth c m n mm fo fs) := by
  obtain ⟨C, f, fd, ps, hc, cl, hm, F, hb⟩ := M.ex
  obtain ⟨ta, pa, ra⟩ := ho.run
  obtain ⟨t, pt, rt⟩ := ha.run
  exact ⟨_, ht _ C f fd ps ta t cl hm F hb pa pt hr hx, meth_run hK hc ra rt⟩
theorem de_meth0 {E : XK} (hK : g.K = X.K) (M : MthK X.prog X.w X.K X.mg X.base g.cls c m k n mm) (hr : Room k X.A) (hx : Passes (L2.CX X.prog X.w) X E) (ho : DE X g (kE E) o fo)
    (ht : ∀ (sp : Sp) (C f : Addr) (fd : FuncData) (ps : List Str) (ta : TE), Cls X.K C → Meth X.K C m f → FnOk X.prog X.w X.K X.mg X.base (L2.CX X.prog X.w) k f fd ps sp → Binds X.K fd ps [] → PE X o ta → Room k X.A → Passes (L2.CX X.prog X.w) X E → PE X (.Call (.Attribute o m apos) [] [] pos) (tMeth C m sp [] E ta tNil) := by exact fun _ _ _ _ _ _ c hm F hb po hr hx => pe_meth0 po c hm F hr hb .nil hx) :
    DE X g (kE E) (.Call (.Attribute o m apos) [] [] pos) (eMeth c m n mm fo aNil) := by
  obtain ⟨C, f, fd, ps, hc, cl, hm, F, hb⟩ := M.ex
  obtain ⟨ta, pa, ra⟩ := ho.run
  exact ⟨_, ht _ C f fd ps ta cl hm F hb pa hr hx, meth_run hK hc ra fun σ H Q F S w R h => h [] H F R.ex .nil⟩
/-! ### fields -/
structure FldK (K : PySem.W.Frag) (cls : CT) (c f : Str) : Prop where
  ex : ∃ C, cls c = some C ∧ Cls K C ∧ NoAttr K C f
def fldD (c f : Str) : D → Option D
  | .obj c' fs => if c' = c then fs.lookup f else none
  | _ => none
theorem de_fld {f : Str} (M : FldK X.K g.cls c f) (ho : DE X g E o fo) (hb : attributeBase o f X.env (eval o X.env) = eval o X.env := by rfl) : DE X g E (.Attribute o f pos) (e1 (fldD c f) fo) := by
  obtain ⟨C, hc, cl, na⟩ := M.ex
  obtain ⟨ta, pa, ra⟩ := ho.run
  refine ⟨_, pe_fld pa hb, fun σ H Q F S w R h => ?_⟩
  refine ra σ H _ F S w R (PostG.imp (PostG.bind h) fun d w1 hd h1 v H1 F1 x1 r1 => ?_)
  clear hd
  obtain ⟨z, hz, q⟩ := post_ofO h1
  cases r1 with
  | @obj a' C' dx' c' fs' ds' h4 h2 h3 rf =>
    have hy : (if c' = c then ds'.lookup f else none) = some z := hz
    clear hz
    by_cases ec : c' = c
    · rw [if_pos ec] at hy
      subst ec
      obtain rfl := Option.some.inj (h3.symm.trans hc)
      obtain ⟨u, e1, e2⟩ := rf.lookup hy
      exact ⟨_, _, _, _, u, rfl, x1.sub _ _ h4, cl, na, e1, q _ _ _ x1 e2⟩
    · rw [if_neg ec] at hy; cases hy
  | _ => cases hz
/-! ### properties -/
structure PrpK (P : Program) (w : World) (K : PySem.W.Frag) (mg : Str → Option Value) (base : Heap) (cls : CT) (c f : Str) (k : Nat) (mm : List D → Bx → R D) : Prop where
  ex : ∃ (C p q : Addr) (fd : FuncData) (ps : List Str), cls c = some C ∧ Cls K C ∧ PropOf K C f p q ∧ FnOk P w K mg base (L2.CX P w) k q fd ps (spM K cls 1 mm) ∧ Binds K fd ps []
def eProp (c : Str) (mm : List D → Bx → R D) (fo : EM) : EM := fun S w => (fo S w).bind fun d w1 => if isCls c d then (mm [d] w1).nx else .bad
theorem de_prop {E : XK} {f : Str} (hK : g.K = X.K) (M : PrpK X.prog X.w X.K X.mg X.base g.cls c f k mm) (hr : Room (k + 1) X.A) (ho : DE X g (kE E) o fo) (hb : attributeBase o f X.env (eval o X.env) = eval o X.env := by rfl) : DE X g (kE E) (.Attribute o f pos) (eProp c mm fo) := by
  obtain ⟨C, p, q, fd, ps, hc, cl, pr, Fn, bi⟩ := M.ex
  obtain ⟨ta, pa, ra⟩ := ho.run
  refine ⟨_, pe_prop pa cl pr Fn hr bi .nil passL hb, fun σ H Q F S w R h => ?_⟩
  refine ra σ H _ F S w R (PostG.imp (PostG.bind h) fun d w1 hd h1 v H1 F1 x1 r1 => ?_)
  clear hd
  by_cases hd : isCls c d = true
  · rw [if_pos hd] at h1
    obtain ⟨q, C', dx, vs, rfl, hc', hq⟩ := r1.isCls hd
    obtain rfl : C' = C := Option.some.inj (hc'.symm.trans hc)
    refine ⟨q, dx, vs, rfl, x1.sub _ _ hq, ?_⟩
    show spM X.K g.cls 1 mm [.ref q] H1 Q E0
    rw [← hK]
    refine ⟨rfl, g.bq, F1, [d], w1, x1.sub, x1.bx, .cons r1 .nil, ?_⟩
    exact nx_post (PostG.ext x1 h1 fun _ _ q => q) fun z w2 h2 v H2 F2 x2 r2 => h2 v H2 F2 (x1.trans x2) r2
  · rw [if_neg hd] at h1; exact h1.elim
end
end Y
namespace Y
open PySem PySem.Spec PyProof.Rows L2
/-! ### the same for another object that is made -/
structure GEq (g g' : G) : Prop where
  k : g.K = g'.K
  c : g.cls = g'.cls
  b : g.bx = g'.bx
theorem GEq.symm {g g' : G} (e : GEq g g') : GEq g' g := ⟨e.k.symm, e.c.symm, e.b.symm⟩
mutual
theorem DR.to {g g' : G} (e : GEq g g') {F : FH} : ∀ {v : V} {d : D}, DR g F v d → DR g' F v d
  | _, _, .non => .non
  | _, _, .bl b => .bl b
  | _, _, .int i => .int i
  | _, _, .str s => .str s
  | _, _, .lst h r => .lst h (DRs.to e r)
  | _, _, .tup h r => .tup (e.k ▸ h) (DRs.to e r)
  | _, _, .box => by rw [e.b]; exact .box
  | _, _, .obj h h2 h3 r => .obj h h2 (by rw [← e.c]; exact h3) (DRf.to e r)
  | _, _, .dct h r => .dct h (DRk.to e r)
  | _, _, .cel h => .cel h
theorem DRs.to {g g' : G} (e : GEq g g') {F : FH} : ∀ {v : List V} {d : List D}, DRs g F v d → DRs g' F v d
  | _, _, .nil => .nil
  | _, _, .cons h r => .cons (DR.to e h) (DRs.to e r)
theorem DRf.to {g g' : G} (e : GEq g g') {F : FH} : ∀ {v : List (Str × V)} {d : List (Str × D)}, DRf g F v d → DRf g' F v d
  | _, _, .nil => .nil
  | _, _, .cons h r => .cons (DR.to e h) (DRf.to e r)
theorem DRk.to {g g' : G} (e : GEq g g') {F : FH} : ∀ {v : List (Key × V)} {d : List (Key × D)}, DRk g F v d → DRk g' F v d
  | _, _, .nil => .nil
  | _, _, .cons h r => .cons (DR.to e h) (DRk.to e r)
end
theorem CellOk.to {g g' : G} (e : GEq g g') {F : FH} {H : Hp} {a : Addr} {c : Cell} (h : CellOk g F H a c) : CellOk g' F H a c := by
  cases c with
  | lst ds => obtain ⟨vs, e1, r⟩ := h; exact ⟨vs, e1, r.to e⟩
  | dct ds => obtain ⟨vs, e1, r⟩ := h; exact ⟨vs, e1, r.to e⟩
  | obj c ds => obtain ⟨C, dx, vs, e1, e2, e3, r⟩ := h; exact ⟨C, dx, vs, e1, e2, by rw [← e.c]; exact e3, r.to e⟩
theorem BxOk.to {g g' : G} (e : GEq g g') {F : FH} {H : Hp} {w : Bx} (b : BxOk g F w H) : BxOk g' F w H :=
  ⟨by rw [← e.b]; exact b.at_, by rw [← e.b]; exact b.no, b.big0, b.mk0, b.mk1, b.nc, fun i c h => let ⟨a, h1, h2, h3, h4⟩ := b.cel i c h; ⟨a, h1, h2, by rw [← e.b]; exact h3, h4.to e⟩, b.adl, b.inj, by rw [← e.c]; exact b.tabs, b.ntb⟩
theorem Ext.to {g g' : G} (e : GEq g g') {F F' : FH} {H H' : Hp} {w : Bx} (x : Ext g F H F' H' w) : Ext g' F H F' H' w := ⟨x.ff, by rw [← e.b]; exact x.hh, x.dom, x.new, x.nad, x.sub, x.bx.to e⟩
theorem PErr.to {g g' : G} (e : GEq g g') {F : FH} {H : Hp} {E : XK} {c : Str} {fs : List (Str × D)} {w : Bx} (p : PErr g F H E c fs w) : PErr g' F H E c fs w :=
  fun cl a vs H' F' x n k l r => p cl a vs H' F' (x.to e.symm) n (by rw [e.c]; exact k) l (r.to e.symm)
theorem PostG.to {α : Type} {g g' : G} (e : GEq g g') {F : FH} {H : Hp} {E : XK} {Q : α → Bx → Prop} {r : R α} (p : PostG g F H E Q r) : PostG g' F H E Q r := by
  cases r with
  | ok a w => exact p
  | err c fs w => exact PErr.to e p
  | bad => exact p
/-! ### __init__ -/
def nEq (n : Nat) : Nat → Bool := fun i => i == n
def nLe (n : Nat) : Nat → Bool := fun i => Nat.ble i n
def spI (K : PySem.W.Frag) (cls : CT) (c : Str) (n : Nat → Bool) (m : List D → Bx → R (List (Str × D))) : Sp := fun vs H Q E => ∃ (x dx C : Addr) (args : List V) (H0 : Hp) (bx : BQ) (F : FH) (ds : List D) (w : Bx),
  vs = .ref x :: args ∧ n args.length = true ∧ cls c = some C ∧ H0 x = none ∧ H0 dx = none ∧ dx ≠ x ∧ H = upd (upd H0 dx (.own x)) x (.ins C dx []) ∧ Same F H0 ∧ BxOk ⟨K, cls, bx⟩ F w H0 ∧ DRs ⟨K, cls, bx⟩ F args ds ∧
  PostG ⟨K, cls, bx⟩ F H0 E (fun fs w' => ∀ (H' : Hp) (F' : FH) (us : List (Str × V)), Ext ⟨K, cls, bx⟩ F H0 F' H' w' → F'.free x → F'.free dx → H' x = some (.ins C dx us) → H' dx = some (.own x) → DRf ⟨K, cls, bx⟩ F' us fs → Q .non H') (m ds w)
def startI (n : Nat) (c : Str) (ds : List D) : SL := some (.ins c []) :: startS (n - 1) ds
def endI (c : Str) : RS → R (List (Str × D))
  | .nx S w => match S with
    | some (.ins c' fs) :: _ => if c' = c then .ok fs w else .bad
    | _ => .bad
  | .err _ c fs w => .err c fs w
  | _ => .bad
def runI (c : Str) (k n : Nat) (body : SM) : List D → Bx → R (List (Str × D)) := fun ds w => if ds.length + 1 = k then endI c (body (startI n c ds) w) else .bad
/-- __init__'s start -/
theorem relI_start {K : PySem.W.Frag} {cls : CT} {b x dx C : Addr} {c y : Str} {F : FH} {H0 : Hp} {w : Bx} {vs : List V} {ds : List D} {N : List Str} (hc : cls c = some C) (nx : H0 x = none) (nd : H0 dx = none) (ne : dx ≠ x) (s : Same F H0) (bo : BxOk ⟨K, cls, (b, x, dx, [])⟩ F w H0) (r : DRs ⟨K, cls, (b, x, dx, [])⟩ F vs ds) :
    RelS ⟨K, cls, (b, x, dx, [])⟩ F H0 F F w (startI (y :: N).length c ds) (start (y :: N) (.ref x :: vs)) (upd (upd H0 dx (.own x)) x (.ins C dx [])) := by
  have x1 : Ext ⟨K, cls, (b, x, dx, [])⟩ F H0 F (upd H0 dx (.own x)) w := Ext.own s bo nd
  have nx1 : (upd H0 dx (.own x)) x = none := by rw [upd_ne ne.symm]; exact nx
  have x2 : Ext ⟨K, cls, (b, x, dx, [])⟩ F H0 F (upd (upd H0 dx (.own x)) x (.ins C dx [])) w := x1.trans (Ext.own x1.sub x1.bx nx1)
  have R0 := rel_start (N := N) x2.sub x2.bx r
  have hst : start (y :: N) (.ref x :: vs) = some (.ref x) :: start N vs := by simp [L2.start]
  refine ⟨⟨x2.sub, x2.bx, ?_, fun i sv hsv => ?_, fun i j ds1 ds2 v h1 h2 => ?_⟩, x2, FSame.refl F, fun i ds1 p h1 => ?_⟩
  · rw [hst]
    show (startS N.length ds).length + 1 = _
    rw [R0.rel.len]; rfl
  · rw [hst]
    cases i with
    | zero =>
      have : sv = .ins c [] := by
        have h : some (some (SV.ins c [])) = some (some sv) := hsv
        injection h with h; injection h with h; exact h.symm
      subst this
      refine ⟨.ref x, rfl, C, [], rfl, hc, free_of s bo nx, free_of s bo nd, not_box bo nx, not_box bo nd, upd_same, ?_, .nil⟩
      rw [upd_ne ne]; exact upd_same
    | succ i => exact R0.rel.sl i sv hsv
  · cases i with
    | zero => cases h1
    | succ i =>
      cases j with
      | zero => cases h2
      | succ j =>
        intro h3 h4
        rw [hst] at h3 h4
        exact congrArg (· + 1) (R0.rel.inj i j ds1 ds2 v h1 h2 h3 h4)
  · cases i with
    | zero => cases h1
    | succ i =>
      intro h2
      rw [hst] at h2
      exact x2.dom p (R0.fr i ds1 p h1 h2)
section
variable {P : Program} {w : World} {K : PySem.W.Frag} {mg : Str → Option Value} {base : Heap} {cls : CT}
theorem ini_run {X : Cx} {c : Str} {y : Str} {N : List Str} {n : Nat} {sts : List Stmt} {m : List D → Bx → R (List (Str × D))} {body : SM} {vs : List V} {H : Hp} {Q : VK} {E : XK}
    (hbody : ∀ (b x dx : Addr) (F0 : FH) (H0 : Hp), H0 x = none → DSs X ⟨K, cls, (b, x, dx, [])⟩ (kE E) F0 H0 sts body) (hm : ∀ ds w, m ds w ≠ .bad → runI c (n + 1) (y :: N).length body ds w = m ds w) (h : spI K cls c (nEq n) m vs H Q E) :
    ∃ t, PSs X sts t ∧ t { nx := fun _ H' => Q .non H', rt := Q } (start (y :: N) vs) H := by
  obtain ⟨x, dx, C, args, H0, bx, F, ds, w0, rfl, hl, hc, nx, nd, ne, rfl, s, bo, rd, hp⟩ := h
  have ge : GEq ⟨K, cls, bx⟩ ⟨K, cls, (bx.1, x, dx, [])⟩ := ⟨rfl, rfl, rfl⟩
  obtain ⟨t, pt, rt⟩ := (hbody bx.1 x dx F H0 nx).run
  refine ⟨t, pt, rt _ _ _ F _ w0 F (relI_start hc nx nd ne s (bo.to ge) (rd.to ge)) ?_⟩
  have hnb : m ds w0 ≠ .bad := fun e => by rw [e] at hp; exact hp
  have e := hm ds w0 hnb
  rw [← e] at hp
  unfold runI at hp
  rw [if_pos (by rw [← rd.length, beq_iff_eq.mp hl])] at hp
  cases hbd : body (startI (y :: N).length c ds) w0 with
  | nx S1 w1 =>
    rw [hbd] at hp
    intro σ' H' F' R'
    match S1, hp, R' with
    | some (.ins c' fs) :: S2, hp, R' =>
      have hq : PostG _ F H0 E _ (if c' = c then R.ok fs w1 else .bad) := hp
      clear hp
      by_cases ec : c' = c
      · rw [if_pos ec] at hq
        subst ec
        obtain ⟨v, e1, C', us, e2, hc', n1, n2, _, _, g1, g2, rf⟩ := R'.rel.sl 0 _ rfl
        obtain rfl : C' = C := Option.some.inj (hc'.symm.trans hc)
        exact hq H' F' us (R'.ext.to ge.symm) n1 n2 g1 g2 (rf.to ge.symm)
      · rw [if_neg ec] at hq; exact hq.elim
    | [], hp, R' => exact hp.elim
    | none :: S2, hp, R' => exact hp.elim
    | some (.dat _) :: S2, hp, R' => exact hp.elim
    | some (.own _) :: S2, hp, R' => exact hp.elim
  | err S1 c fs w1 => rw [hbd] at hp; exact fun σ' H' F' R' cl a vs n k l r => PErr.to ge hp cl a vs H' F' R'.ext n k l r
  | rt d w1 => rw [hbd] at hp; exact hp.elim
  | bk S1 w1 => rw [hbd] at hp; exact hp.elim
  | ct S1 w1 => rw [hbd] at hp; exact hp.elim
  | bad => rw [hbd] at hp; exact hp.elim
/-- a class whose __init__ does m -/
structure IniK (P : Program) (w : World) (K : PySem.W.Frag) (mg : Str → Option Value) (base : Heap) (cls : CT) (c : Str) (k : Nat) (n : Nat → Bool) (m : List D → Bx → R (List (Str × D))) : Prop where
  ex : ∃ (C f : Addr), mg c = some (.ref C) ∧ cls c = some C ∧ Mk K C f ∧ FnR P w K mg base (L2.CX P w) k f (spI K cls c n m)
theorem ini_of {E : XK} {x qual c y : Str} {st : Stmt} {C f : Addr} {fd : FuncData} {N ps : List Str} {k : Nat} {m : List D → Bx → R (List (Str × D))} {body : SM} (hmg : mg c = some (.ref C)) (hc : cls c = some C) (M : Mk K C f) (F : Fun K x qual st f fd) (S : FnScope (y :: N) (y :: ps) (defScope st)) (hb : Binds K fd (y :: ps) [])
    (hbody : ∀ (cdv : Value) (A : Around) (outer : List Env) (s : Shared) (H : Hp) (E : XK) (b x dx : Addr) (F0 : FH) (H0 : Hp), Room k (A.deeper (envOfC qual (defScope st) s.heap.objs.size f cdv)) → H0 x = none →
      DSs (cxOf (L2.CX P w) P w K mg base (y :: N) qual (defScope st) f cdv A outer s H E) ⟨K, cls, (b, x, dx, [])⟩ (kE E) F0 H0 (defBody st) body)
    (hm : ∀ ds w, m ds w ≠ .bad → runI c (ps.length + 1) (y :: N).length body ds w = m ds w) : IniK P w K mg base cls c (k + 1) (nEq ps.length) m := by
  have G : FnOk P w K mg base (L2.CX P w) (k + 1) f fd (y :: ps) (spI K cls c (nEq ps.length) m) := F.okX S (fun vs H Q E h => by
      obtain ⟨x, dx, C, args, H0, bx, F, ds, w0, rfl, hl, _⟩ := h
      rw [List.length_cons, beq_iff_eq.mp hl]; rfl) fun cdv A outer s H vs Q E hr h => ini_run (fun b x dx F0 H0 h0 => hbody cdv A outer s H E b x dx F0 H0 hr h0) hm h
  refine ⟨C, f, hmg, hc, M, (G.raw hb .nil).imp fun vs H Q E h => ?_⟩
  rw [List.append_nil]; exact h
end
/-! ### C(..) -/
def eMake (c : Str) (n : Nat → Bool) (m : List D → Bx → R (List (Str × D))) (fs : AM) : EM := fun S w => (fs S w).bind fun ds w1 => if n ds.length = true then (m ds w1).bind fun fl w2 => .ok (.obj c fl) w2 else .bad
section
variable {X : Cx} {g : G} {E : EK} {e a b o : Expr} {es : List Expr} {pos p p2 apos : Pos} {fs : AM} {x c : Str} {k : Nat} {n : Nat → Bool} {m : List D → Bx → R (List (Str × D))}
theorem make_run {E : XK} {C : Addr} {t : TA} (hK : g.K = X.K) (hc : g.cls c = some C) (ra : ∀ σ H Q F S w, Rel g F w S σ H → PostA g F H Q E (fs S w) → t σ H Q) :
    ∀ σ H Q F S w, Rel g F w S σ H → Post g F H Q E (eMake c n m fs S w) → StX.tMakeR C (spI X.K g.cls c n m) E t σ H Q := by
  intro σ H Q F S w R h
  refine ra σ H _ F S w R (PostG.imp (PostG.bind h) fun ds w1 _ h1 vs H1 F1 x1 r1 => ?_)
  intro x dx nx nd ne
  by_cases hn : n ds.length = true
  · rw [if_pos hn] at h1
    rw [← hK]
    refine ⟨x, dx, C, vs, H1, g.bq, F1, ds, w1, rfl, by rw [r1.length]; exact hn, hc, nx, nd, ne, rfl, x1.sub, x1.bx, r1, PostG.ext x1 (PostG.bind h1) fun fl w2 h2 H2 F2 us x2 n1 n2 e1 e2 rf => ⟨rfl, ?_⟩⟩
    have x12 := x1.trans x2
    have bx1 : x ≠ g.bx := not_box x1.bx nx
    have bx2 : dx ≠ g.bx := not_box x1.bx nd
    have nx0 := x1.fresh nx
    have nd0 := x1.fresh nd
    have x3 : Ext g F H (F2.upd dx (.own x)) H2 w2 := Ext.freeze x12 nd0 n2 e2 bx2
    have n3 : (F2.upd dx (.own x)).free x := n1.upd ne.symm
    have x4 : Ext g F H ((F2.upd dx (.own x)).upd x (.ins C dx us)) H2 w2 := Ext.freeze x3 nx0 n3 e1 bx1
    have s2 : FSame F2 ((F2.upd dx (.own x)).upd x (.ins C dx us)) := (FSame.upd n2.1).trans (FSame.upd n3.1)
    exact h2 _ _ _ x4 (.obj upd_same (by show upd (upd F2.fz dx (.own x)) x (.ins C dx us) dx = _; rw [upd_ne ne]; exact upd_same) hc (rf.mono s2))
  · rw [if_neg hn] at h1; exact h1.elim
theorem de_make {E : XK} (hK : g.K = X.K) (M : IniK X.prog X.w X.K X.mg X.base g.cls c k n m) (hr : Room (k + 1) X.A) (hx : Passes (L2.CX X.prog X.w) X E) (ha : DA X g (kE E) (e :: es) fs) (hg : Gl X c := by rfl) (hdb : (c == ("__debug__" : Str)) = false := by decide)
    (he : starEach (e :: es) X.env = (false, eval e X.env) :: starEach es X.env := by rfl) (hpl : (backTo pos (starEach es X.env)).any (·.1) = false := by rfl) : DE X g (kE E) (.Call (.Name c p) (e :: es) [] pos) (eMake c n m fs) := by
  obtain ⟨C, f, hmg, hc, Mk, F⟩ := M.ex
  obtain ⟨t, pt, rt⟩ := ha.run
  exact ⟨_, StX.pe_makeR Mk F hr hg hmg hx pt hdb he hpl, make_run hK hc rt⟩
end
/-! ### self.f = e -/
def putD (f : Str) (v : D) : List (Str × D) → List (Str × D)
  | [] => [(f, v)]
  | (g, x) :: r => if g = f then (g, v) :: r else (g, x) :: putD f v r
theorem DRf.put {g : G} {F : FH} {f : Str} {v : V} {d : D} (r : DR g F v d) : ∀ {vs : List (Str × V)} {ds : List (Str × D)}, DRf g F vs ds → DRf g F (putF f v vs) (putD f d ds)
  | _, _, .nil => .cons r .nil
  | _, _, .cons (n := n) h t => by
    unfold putF putD
    by_cases e : n = f
    · rw [if_pos e, if_pos e]; exact .cons r t
    · rw [if_neg e, if_neg e]; exact .cons h (DRf.put r t)
theorem DRf.length {g : G} {F : FH} : ∀ {v : List (Str × V)} {d : List (Str × D)}, DRf g F v d → v.length = d.length
  | _, _, .nil => rfl
  | _, _, .cons _ r => congrArg (· + 1) r.length
def insAt (S : SL) (i : Nat) (c : Str) : Option (List (Str × D)) := match S[i]? with
  | some (some (.ins c' fs)) => if c' = c then some fs else none
  | _ => none
theorem insAt_some {S : SL} {i : Nat} {c : Str} {fs : List (Str × D)} (h : insAt S i c = some fs) : S[i]? = some (some (.ins c fs)) := by
  unfold insAt at h
  split at h
  · rename_i e
    split at h
    · rename_i ec; cases h; rw [e, ec]
    · cases h
  · cases h
def isIns : Option (Option SV) → Bool
  | some (some (.ins _ _)) => true
  | _ => false
def soleI (S : SL) (i : Nat) : Bool := (List.range S.length).all fun j => j == i || !isIns S[j]?
theorem soleI_ne {S : SL} {i j : Nat} {c : Str} {fs : List (Str × D)} (h : soleI S i = true) (hj : S[j]? = some (some (.ins c fs))) : j = i := by
  unfold soleI at h
  rw [List.all_eq_true] at h
  have := h j (List.mem_range.mpr (List.getElem?_eq_some_iff.mp hj).1)
  rw [hj] at this
  simpa [isIns] using this
def sFldI (i : Nat) (c f : Str) (fe : EM) : SM := fun S w => (fe S w).to S fun d w1 => match insAt S i c with
  | some fs => if fs.length < 1000 ∧ soleI S i = true then .nx (S.set i (some (.ins c (putD f d fs)))) w1 else .bad
  | none => .bad
section
variable {X : Cx} {g : G} {E : EK} {F0 : FH} {H0 : Hp} {B : FH} {e a b o : Expr} {es : List Expr} {pos p p2 apos : Pos} {fe : EM} {x c f : Str}
theorem RelS.mutI {F : FH} {H : Hp} {w : Bx} {S : SL} {σ : L2.St} {i : Nat} {us : List (Str × V)} {fs gs : List (Str × D)} {C : Addr} (R : RelS g F0 H0 B F w S σ H) (h0 : H0 g.me = none) (so : soleI S i = true) (hi : S[i]? = some (some (.ins c fs))) (hc : g.cls c = some C) (r : DRf g F us gs) :
    RelS g F0 H0 B F w (S.set i (some (.ins c gs))) σ (upd H g.me (.ins C g.md us)) := by
  have hl : i < S.length := (List.getElem?_eq_some_iff.mp hi).1
  obtain ⟨v, hs, C', ws, rfl, hc', n1, n2, b1, b2, g1, g2, _⟩ := R.rel.sl i _ hi
  have dm : g.md ≠ g.me := fun z => by rw [z, g1] at g2; cases g2
  have x : Ext g F0 H0 F (upd H g.me (.ins C g.md us)) w := Ext.mut R.ext h0 n1 b1 g1 (.inr (.inr ⟨_, _, _, rfl⟩))
  refine ⟨⟨x.sub, x.bx, by rw [List.length_set]; exact R.rel.len, fun j s hj => ?_, fun j k es1 es2 u h1 h2 h3 h4 => ?_⟩, x, R.fl, fun j es1 p h1 h2 => ?_⟩
  · rw [List.getElem?_set] at hj
    by_cases e : i = j
    · subst e
      rw [if_pos rfl, if_pos hl] at hj; cases hj
      exact ⟨_, hs, C, us, rfl, hc, n1, n2, b1, b2, upd_same, by rw [upd_ne dm]; exact g2, r⟩
    · rw [if_neg e] at hj
      obtain ⟨v, e1, e2⟩ := R.rel.sl j s hj
      refine ⟨v, e1, ?_⟩
      cases s with
      | dat d => exact e2
      | own zs =>
        obtain ⟨q2, ws, e3, e4, e5, e6, e7⟩ := e2
        exact ⟨q2, ws, e3, e4, e5, by rw [upd_ne fun z => by rw [z, g1] at e6; cases e6]; exact e6, e7⟩
      | lam ls =>
        obtain ⟨p, ws, e3, e4, e5⟩ := e2
        exact ⟨p, ws, e3, e4, e5.upd g1 fun _ z => by cases z⟩
      | ins c2 fs2 => exact absurd (soleI_ne so hj).symm e
  · have key : ∀ (j : Nat) (zs : List D), (S.set i (some (.ins c gs)))[j]? = some (some (.own zs)) → S[j]? = some (some (.own zs)) := fun j zs h => by
      rw [List.getElem?_set] at h
      by_cases e : i = j
      · rw [if_pos e] at h; split at h <;> cases h
      · rw [if_neg e] at h; exact h
    exact R.rel.inj j k es1 es2 u (key j es1 h1) (key k es2 h2) h3 h4
  · rw [List.getElem?_set] at h1
    by_cases e : i = j
    · rw [if_pos e] at h1; split at h1 <;> cases h1
    · rw [if_neg e] at h1; exact R.fr j es1 p h1 h2
theorem ds_fldI (i : Nat) {px tpos : Pos} (M : FldK X.K g.cls c f) (h0 : H0 g.me = none) (ha : DE X g E a fe) (hN : X.N[i]? = some x := by rfl) (hv : Vis X.env.scope x := by first | exact Or.inl rfl | exact Or.inr (Or.inl rfl) | exact Or.inr (Or.inr rfl)) (hd : (x == ("__debug__" : Str)) = false := by decide)
    (hcd : (x == ("__classdict__" : Str)) = false := by decide) (hs : swapsWith a (some (.Attribute (.Name x px) f tpos)) pos.line X.env = pure false := by rfl) : DS X g E F0 H0 (.Assign [.Attribute (.Name x px) f tpos] a pos) (sFldI i c f fe) := by
  obtain ⟨C, hc, cl, na⟩ := M.ex
  obtain ⟨t, pa, r⟩ := ha.run
  refine ⟨_, ps_fld (pe_var hN hv hd hcd) pa hs, fun N σ H F S w B R h => ?_⟩
  refine r σ H _ F S w R.rel (PostG.imp (PostS.to R h) fun d w1 hd' h1 v H1 F1 x1 r1 => ?_)
  have R1 := R.ext' x1
  cases ho : insAt S i c with
  | none => rw [ho] at h1; exact h1.elim
  | some fl =>
    rw [ho] at h1
    have hi := insAt_some ho
    by_cases hl : fl.length < 1000 ∧ soleI S i = true
    · simp only [if_pos hl] at h1
      obtain ⟨u, e1, C', vs, e2, hc', n1, n2, b1, b2, g1, g2, rf⟩ := R1.rel.sl i _ hi
      subst e2
      obtain rfl : C' = C := Option.some.inj (hc'.symm.trans hc)
      exact ⟨_, e1, g.me, C', g.md, vs, rfl, g1, cl, na, by rw [rf.length]; exact hl.1, h1 _ _ F1 (R1.mutI h0 hl.2 hi hc (rf.put r1))⟩
    · simp only [if_neg hl] at h1; exact h1.elim
end
end Y
namespace Y
open PySem PySem.Spec PyProof.Rows L2
/-! ### C(), C(*xs) -/
section
variable {X : Cx} {g : G} {E : EK} {e a b o : Expr} {es : List Expr} {pos p p2 apos : Pos} {fs : AM} {fa : EM} {x c : Str} {k : Nat} {n : Nat → Bool} {m : List D → Bx → R (List (Str × D))}
theorem pe_makeR0 {E : XK} {CX : CXT} {C f : Addr} {sp : Sp} (M : Mk X.K C f) (F : FnR X.prog X.w X.K X.mg X.base CX k f sp) (hr : Room (k + 1) X.A) (hg : Gl X x) (hm : X.mg x = some (.ref C)) (hx : Passes CX X E) (hdb : (x == ("__debug__" : Str)) = false := by decide) :
    PE X (.Call (.Name x p) [] [] pos) (StX.tMakeR C sp E tNil) := by
  refine ⟨fun pins s σ H Q I h => ?_⟩
  refine wpAny_Call_Name_kw (ld_glob I hg hm ?_ hdb)
  exact PySem.W.callWith_K0 (first := []) I.kIn M.kp (StX.run_makeR M F hr hx I .nil h)
theorem de_make0 {E : XK} (hK : g.K = X.K) (M : IniK X.prog X.w X.K X.mg X.base g.cls c k n m) (hr : Room (k + 1) X.A) (hx : Passes (L2.CX X.prog X.w) X E) (hg : Gl X c := by rfl) (hdb : (c == ("__debug__" : Str)) = false := by decide) : DE X g (kE E) (.Call (.Name c p) [] [] pos) (eMake c n m aNil) := by
  obtain ⟨C, f, hmg, hc, Mk, F⟩ := M.ex
  exact ⟨_, pe_makeR0 Mk F hr hg hmg hx hdb, make_run hK hc fun σ H Q F S w R h => h [] H F R.ex .nil⟩
def tStar1 (K : PySem.W.Frag) (te : TE) : TA := fun σ H Q => te σ H fun y H1 => ∃ a xs, y = V.ref a ∧ (SqT K H1 a xs ∨ SqL K H1 a xs) ∧ Q xs H1
theorem pe_makeS {E : XK} {CX : CXT} {C f : Addr} {sp : Sp} {te : TE} {sp_ : Pos} (M : Mk X.K C f) (F : FnR X.prog X.w X.K X.mg X.base CX k f sp) (hr : Room (k + 1) X.A) (hg : Gl X x) (hm : X.mg x = some (.ref C)) (hx : Passes CX X E) (he : PE X e te) (hdb : (x == ("__debug__" : Str)) = false := by decide)
    (hst : starEach [.Starred e sp_] X.env = [(true, eval e X.env)] := by rfl) : PE X (.Call (.Name x p) [.Starred e sp_] [] pos) (StX.tMakeR C sp E (tStar1 X.K te)) := by
  refine ⟨fun pins s σ H Q I h => ?_⟩
  refine wpAny_Call_Name_kw (ld_glob I hg hm ?_ hdb)
  refine PySem.W.callWith_S (h₀ := X.base) I.ok.mod.kin M.kp (thn (he.run pins s σ H _ I h) fun v s1 ⟨y, H1, I1, ry, a, xs, ey, hxs, q⟩ => ?_) hst
  subst ey
  obtain rfl : v = Value.ref a := ry
  exact StX.star_any I1 hxs fun us s2 I2 rv => ⟨I2.kIn, StX.run_makeR M F hr hx I2 rv q⟩
def seqD : D → Option (List D)
  | .lst ds => some ds
  | .tup ds => some ds
  | _ => none
def aStar (f : EM) : AM := fun S w => (f S w).bind fun d w1 => R.ofO (seqD d) w1
theorem de_makeS {E : XK} {sp_ : Pos} (hK : g.K = X.K) (M : IniK X.prog X.w X.K X.mg X.base g.cls c k n m) (hr : Room (k + 1) X.A) (hx : Passes (L2.CX X.prog X.w) X E) (ha : DE X g (kE E) e fa) (hg : Gl X c := by rfl) (hdb : (c == ("__debug__" : Str)) = false := by decide)
    (hst : starEach [.Starred e sp_] X.env = [(true, eval e X.env)] := by rfl) : DE X g (kE E) (.Call (.Name c p) [.Starred e sp_] [] pos) (eMake c n m (aStar fa)) := by
  obtain ⟨C, f, hmg, hc, Mk, F⟩ := M.ex
  obtain ⟨ta, pa, ra⟩ := ha.run
  refine ⟨_, pe_makeS Mk F hr hg hmg hx pa hdb hst, make_run hK hc fun σ H Q F S w R h => ?_⟩
  refine ra σ H _ F S w R (PostG.imp (PostG.bind h) fun d w1 hd h1 v H1 F1 x1 r1 => ?_)
  clear hd
  obtain ⟨z, hz, q⟩ := post_ofO' h1
  rw [← hK]
  cases r1 with
  | lst h r => cases hz; exact ⟨_, _, rfl, .inr (.inl (.inl (x1.sub _ _ h))), q _ _ _ x1 r⟩
  | tup h r => cases hz; exact ⟨_, _, rfl, .inl (same_T x1.sub h), q _ _ _ x1 r⟩
  | _ => cases hz
end
/-! ### def __init__(self, *rest) -/
section
variable {P : Program} {w : World} {K : PySem.W.Frag} {mg : Str → Option Value} {base : Heap} {cls : CT}
theorem ini_ofV {x qual c y z : Str} {st : Stmt} {C f : Addr} {fd : FuncData} {N : List Str} {k nmax : Nat} {m : List D → Bx → R (List (Str × D))} {body : SM} (hmg : mg c = some (.ref C)) (hc : cls c = some C) (M : Mk K C f) (F : Fun K x qual st f fd) (S : FnScope (y :: N) ([y] ++ [z]) (defScope st))
    (hb : ∀ (kV doc pm cdv ct : Value) (an : Option Addr) (us rest : List Value), us.length = [y].length → bindArgs (PySem.W.fnOf x qual (defArgs st) (defBody st) (defScope st) .none kV doc pm an cdv ct) ⟨us ++ rest, []⟩ = (newTuple rest >>= fun t => pure ([y].zip us ++ [(z, t)])))
    (hz : nmax ≤ sizeLine)
    (hbody : ∀ (cdv : Value) (A : Around) (outer : List Env) (s : Shared) (H : Hp) (E : XK) (b x dx : Addr) (F0 : FH) (H0 : Hp), Room k (A.deeper (envOfC qual (defScope st) s.heap.objs.size f cdv)) → H0 x = none →
      DSs (cxOf (L2.CX P w) P w K mg base (y :: N) qual (defScope st) f cdv A outer s H E) ⟨K, cls, (b, x, dx, [])⟩ (kE E) F0 H0 (defBody st) body)
    (hm : ∀ ds w, m ds w ≠ .bad → runI c 2 (y :: N).length body [.tup ds] w = m ds w) : IniK P w K mg base cls c (k + 1) (nLe nmax) m := by
  obtain ⟨oc, od, kV, doc, pm, an, cdv, ct, osl, rfl, lk, hcd⟩ := F.ex
  have G := StX.fn_star (P := P) (w := w) (mg := mg) (base := base) (k := k) (ps := [y]) (pv := z) (CX := L2.CX P w) (sp := spI K cls c (nEq 1) (fun ds w => match ds with | [.tup es] => m es w | _ => .bad)) lk hcd S StX.cxUp (fun us rest hl => hb _ _ _ _ _ _ us rest hl) fun A outer s H vs Q E hr h =>
    ini_run (fun b x dx F0 H0 h0 => hbody cdv A outer s H E b x dx F0 H0 hr h0) (fun ds w hn => by
      match ds, hn with
      | [.tup es], hn => exact hm es w hn) h
  refine ⟨C, f, hmg, hc, M, G.imp fun vs H Q E h => ?_⟩
  obtain ⟨x, dx, C', args, H0, bx, F, ds, w0, rfl, hl, hc', nx, nd, ne, rfl, s, bo, rd, hp⟩ := h
  refine ⟨[.ref x], args, rfl, rfl, Nat.le_trans (Nat.le_of_ble_eq_true hl) hz, fun p np => ?_⟩
  have px : p ≠ x := fun e => by rw [e, upd_same] at np; cases np
  have pd : p ≠ dx := fun e => by rw [e, upd_ne ne, upd_same] at np; cases np
  have np0 : H0 p = none := by rw [upd_ne px, upd_ne pd] at np; exact np
  have xl := Ext.lay (o := .tup args) s bo np0
  refine ⟨x, dx, C', [.ref p], upd H0 p (.tup args), bx, F.upd p (.tup args), [.tup ds], w0, rfl, rfl, hc', ?_, ?_, ne, ?_, xl.sub, xl.bx, .cons (.tup (.inl (.inl upd_same)) (rd.mono xl.ff)) .nil, PostG.ext xl hp fun fs w' q H' F' us x' => q H' F' us (xl.trans x')⟩
  · rw [upd_ne px.symm]; exact nx
  · rw [upd_ne pd.symm]; exact nd
  · funext a
    by_cases e1 : a = p
    · subst e1; rw [upd_same, upd_ne px, upd_ne pd, upd_same]
    · rw [upd_ne e1]
      by_cases e2 : a = x
      · subst e2; rw [upd_same, upd_same]
      · rw [upd_ne e2, upd_ne e2]
        by_cases e3 : a = dx
        · subst e3; rw [upd_same, upd_same]
        · rw [upd_ne e3, upd_ne e3, upd_ne e1]
end
/-! ### o(..) -/
structure CloK (P : Program) (w : World) (K : PySem.W.Frag) (mg : Str → Option Value) (base : Heap) (cls : CT) (c : Str) (k n : Nat) (mm : List D → Bx → R D) : Prop where
  ex : ∃ (C f : Addr) (fd : FuncData) (ps : List Str), cls c = some C ∧ StX.CallO K C f ∧ FnOk P w K mg base (L2.CX P w) k f fd ps (spM K cls n mm) ∧ Binds K fd ps []
def eCallO (c : Str) (n : Nat) (mm : List D → Bx → R D) (fo : EM) (fs : AM) : EM := fun S w => (fo S w).bind fun d w1 => if isCls c d then (fs S w1).bind fun ds w2 => if ds.length + 1 = n then mm (d :: ds) w2 else .bad else .bad
section
variable {X : Cx} {g : G} {E : EK} {e a b o : Expr} {es : List Expr} {pos p p2 apos : Pos} {fs : AM} {fo : EM} {x c : Str} {k n : Nat} {mm : List D → Bx → R D}
theorem raw_spM {fd : FuncData} {ps : List Str} {f : Addr} (F : FnOk X.prog X.w X.K X.mg X.base (L2.CX X.prog X.w) k f fd ps (spM X.K g.cls n mm)) (hb : Binds X.K fd ps []) : FnR X.prog X.w X.K X.mg X.base (L2.CX X.prog X.w) k f (spM X.K g.cls n mm) :=
  (F.raw hb .nil).imp fun vs H Q E h => by rw [List.append_nil]; exact h
theorem de_callO {E : XK} (hK : g.K = X.K) (M : CloK X.prog X.w X.K X.mg X.base g.cls c k n mm) (hr : Room k X.A) (hx : Passes (L2.CX X.prog X.w) X E) (ho : DE X g (kE E) o fo) (ha : DA X g (kE E) (e :: es) fs)
    (hq : ∀ (C f : Addr) (sp : Sp) (tf : TE) (t : TA), PE X o tf → StX.CallO X.K C f → FnR X.prog X.w X.K X.mg X.base (L2.CX X.prog X.w) k f sp → PA X (e :: es) t → Room k X.A → Passes (L2.CX X.prog X.w) X E → PE X (.Call o (e :: es) [] pos) (StX.tCallO X C sp E tf t) := by exact fun _ _ _ _ _ h1 h2 h3 h4 hr hx => StX.pe_callO h1 h2 h3 hr hx h4) :
    DE X g (kE E) (.Call o (e :: es) [] pos) (eCallO c n mm fo fs) := by
  obtain ⟨C, f, fd, ps, hc, cl, F, hb⟩ := M.ex
  obtain ⟨ta, pa, ra⟩ := ho.run
  obtain ⟨t, pt, rt⟩ := ha.run
  refine ⟨_, hq C f _ ta t pa cl (raw_spM (g := g) F hb) pt hr hx, fun σ H Q F S w R h => ?_⟩
  refine ra σ H _ F S w R (PostG.imp (PostG.bind h) fun d w1 hd h1 v H1 F1 x1 r1 => ?_)
  clear hd
  by_cases hd : isCls c d = true
  · rw [if_pos hd] at h1
    obtain ⟨q, C', dx, vs, rfl, hc', hq⟩ := r1.isCls hd
    obtain rfl : C' = C := Option.some.inj (hc'.symm.trans hc)
    refine ⟨q, rfl, rt σ H1 _ F1 S w1 (R.ext x1) (PostG.ext x1 (PostG.bind h1) fun ds w2 h2 us H2 F2 x2 r2 => ⟨.inr ⟨dx, vs, x2.sub _ _ (x2.ff.fz _ _ hq)⟩, ?_⟩)⟩
    by_cases hn : ds.length + 1 = n
    · rw [if_pos hn] at h2
      rw [← hK]
      exact ⟨by rw [List.length_cons, r2.length]; exact hn, g.bq, F2, d :: ds, w2, x2.sub, x2.bx, .cons (r1.mono x2.ff) r2, Post.of (x1.trans x2) h2⟩
    · rw [if_neg hn] at h2; exact h2.elim
  · rw [if_neg hd] at h1; exact h1.elim
end
end Y
namespace Y
open PySem PySem.Spec PyProof.Rows L2
/-! ### static methods -/
structure SMet (K : PySem.W.Frag) (C : Addr) (mc : Value) (m : Str) (p g : Addr) : Prop where
  at_ : PySem.W.findCls K (.ref C) mc m = some (.get (.builtin "staticmethod.__get__") (.ref p) .none (.ref C))
  rc : ∃ rest, PySem.W.recIn K p "staticmethod" = some (.ref g :: rest)
  kp : PySem.W.keepIn K (.ref g) = true
theorem getmethsm_ok {X : Cx} {pins : List (Addr × Obj)} {σ : L2.St} {H : Hp} {s : Shared} {C p g : Addr} {mc : Value} {m : Str} {A : Around} {E : Value → Shared → Prop} {pl : Sem Bool} {Q : Value × List Value → Shared → Prop} (I : Inv X pins σ H s) (r : ClX.CRead X.K C mc) (k : SMet X.K C mc m p g)
    (h : ∀ s', Inv X pins σ H s' → Q (.ref g, []) s') : wpAny (model X.prog X.w) A (getMethod (.ref C) m pl) Q E s := by
  obtain ⟨rest, hp⟩ := k.rc
  refine PySem.W.method_cls I.kIn r.ga (PySem.W.cls_bind I.kIn r.rd k.at_ ?_)
  exact wpAny_call (PySem.W.sm_get (s := { s with toks := s.toks + 1 }) I.kIn hp (PySem.W.handed_on rfl (h _ (I.tok _))))
def tSMeth (C : Addr) (sp : Sp) (E : XK) (ta : TE) (t : TA) : TE := fun σ H Q => ta σ H fun x H1 => x = .ref C ∧ t σ H1 fun vs H2 => sp vs H2 Q E
theorem pe_smeth {X : Cx} {CX : CXT} {k : Nat} {C p g : Addr} {mc : Value} {sp : Sp} {E : XK} {o e : Expr} {es : List Expr} {m : Str} {pos apos : Pos} {ta : TE} {t : TA} {pl : Sem Bool} (he : PE X o ta) (r : ClX.CRead X.K C mc) (c : SMet X.K C mc m p g) (F : FnR X.prog X.w X.K X.mg X.base CX k g sp) (hr : Room k X.A) (hx : Passes CX X E) (ha : PA X (e :: es) t)
    (hst : starEach (e :: es) X.env = (false, eval e X.env) :: starEach es X.env := by rfl) (hpl : (backTo pos (starEach es X.env)).any (·.1) = false := by rfl)
    (ht : eval (.Call (.Attribute o m apos) (e :: es) [] pos) X.env = (do
      let ov ← eval o X.env
      standAt apos.atName
      let (f, first) ← holding [ov] (getMethod ov m pl)
      callWith pos f first (backTo pos (starEach (e :: es) X.env)) (backToKw pos (keywordEach [] X.env))) := by rfl) :
    PE X (.Call (.Attribute o m apos) (e :: es) [] pos) (tSMeth C sp E ta t) := by
  refine ⟨fun pins s σ H Q I h => ?_⟩
  refine PySem.W.methodCall_KW (pl := pl) (thn (he.run pins s σ H _ I h) fun u s1 ⟨x, H1, I1, rx, ex, q⟩ => ?_) ht
  subst ex
  obtain rfl : u = Value.ref C := rx
  refine getmethsm_ok I1 r c fun s1' I1' => ?_
  refine PySem.W.callWith_K (first := []) (h₀ := X.base) I.ok.mod.kin c.kp (thn (ha.run pos pins s1' σ H1 _ I1' q) fun us s2 ⟨vs, H2, I2, r, q2⟩ => ⟨I2.kIn, ?_⟩) hst hpl
  exact wpAny_call (run_fnR F hr hx I2 r q2)
structure StaK (P : Program) (w : World) (K : PySem.W.Frag) (mg : Str → Option Value) (base : Heap) (cls : CT) (c m : Str) (k n : Nat) (mm : List D → Bx → R D) : Prop where
  ex : ∃ (C p f : Addr) (mc : Value) (fd : FuncData) (ps : List Str), mg c = some (.ref C) ∧ ClX.CRead K C mc ∧ SMet K C mc m p f ∧ FnOk P w K mg base (L2.CX P w) k f fd ps (spM K cls n mm) ∧ Binds K fd ps []
section
variable {X : Cx} {g : G} {E : EK} {e a b o : Expr} {es : List Expr} {pos p p2 apos : Pos} {fs : AM} {fa fb fo : EM} {x c m : Str} {k n : Nat} {mm : List D → Bx → R D}
theorem de_static {E : XK} (hK : g.K = X.K) (M : StaK X.prog X.w X.K X.mg X.base g.cls c m k n mm) (hr : Room k X.A) (hx : Passes (L2.CX X.prog X.w) X E) (ha : DA X g (kE E) (e :: es) fs) (hg : Gl X c := by rfl) (hdb : (c == ("__debug__" : Str)) = false := by decide)
    (hq : ∀ (C p' f : Addr) (mc : Value) (sp : Sp) (ta : TE) (t : TA), PE X (.Name c p) ta → ClX.CRead X.K C mc → SMet X.K C mc m p' f → FnR X.prog X.w X.K X.mg X.base (L2.CX X.prog X.w) k f sp → PA X (e :: es) t → Room k X.A → Passes (L2.CX X.prog X.w) X E → PE X (.Call (.Attribute (.Name c p) m apos) (e :: es) [] pos) (tSMeth C sp E ta t) := by exact fun _ _ _ _ _ _ _ h1 h2 h3 h4 h5 hr hx => pe_smeth h1 h2 h3 h4 hr hx h5) :
    DE X g (kE E) (.Call (.Attribute (.Name c p) m apos) (e :: es) [] pos) (eCall n mm fs) := by
  obtain ⟨C, p', f, mc, fd, ps, hm, cr, sm, F, hb⟩ := M.ex
  obtain ⟨t, pt, rt⟩ := ha.run
  refine ⟨_, hq C p' f mc _ _ t (pe_glob hg hm (v := .ref C) rfl hdb) cr sm (raw_spM (g := g) F hb) pt hr hx, fun σ H Q F S w R h => ⟨rfl, ?_⟩⟩
  have z := call_run (E := E) (n := n) (m := mm) hK rt σ H Q F S w R h
  exact rt σ H _ F S w R (PostG.imp (PostG.bind h) fun ds w1 _ h1 vs H1 F1 x1 r1 => by
    by_cases hl : ds.length = n
    · rw [if_pos hl] at h1
      show spM X.K g.cls n mm vs H1 Q E
      rw [← hK]
      exact ⟨by rw [r1.length]; exact hl, g.bq, F1, ds, w1, x1.sub, x1.bx, r1, Post.of x1 h1⟩
    · rw [if_neg hl] at h1; exact h1.elim)
/-! ### a constant of a class -/
structure CstK (K : PySem.W.Frag) (mg : Str → Option Value) (c f : Str) (d : D) : Prop where
  ex : ∃ (C : Addr) (mc : Value) (v : V) (u : Value), mg c = some (.ref C) ∧ ClX.CRead K C mc ∧ ClX.CVal K C mc f v u ∧ ∀ (g : G) (F : FH), DR g F v d
theorem de_cst {f : Str} {d : D} (M : CstK X.K X.mg c f d) (hg : Gl X c := by rfl) (hdb : (c == ("__debug__" : Str)) = false := by decide) (hb : attributeBase (.Name c p) f X.env (eval (.Name c p) X.env) = eval (.Name c p) X.env := by rfl) :
    DE X g E (.Attribute (.Name c p) f pos) (eC d) := by
  obtain ⟨C, mc, v, u, hm, cr, cv, hd⟩ := M.ex
  exact ⟨_, ClX.pe_cval (pe_glob hg hm (v := .ref C) rfl hdb) hb, fun σ H Q F S w R h => ⟨C, mc, v, u, rfl, cr, cv, h _ _ _ R.ex (hd g F)⟩⟩
/-! ### an own operator -/
structure OpK (P : Program) (w : World) (K : PySem.W.Frag) (mg : Str → Option Value) (base : Heap) (cls : CT) (c dn : Str) (k : Nat) (mm : List D → Bx → R D) : Prop where
  ex : ∃ (C f : Addr) (fd : FuncData) (ps : List Str), cls c = some C ∧ PySem.W.selfFirst K C = true ∧ PySem.W.findIn K (.ref C) dn = some (some (.ref f)) ∧ PySem.W.isFn K (.ref f) = true ∧ FnOk P w K mg base (L2.CX P w) k f fd ps (spM K cls 2 mm) ∧ Binds K fd ps []
def rOwn (C : Addr) (sp : Sp) (E : XK) : R2 := fun x y H Q => ∃ a b dx dy fs gs, x = .ref a ∧ y = .ref b ∧ H a = some (.ins C dx fs) ∧ H b = some (.ins C dy gs) ∧ sp [x, y] H Q E
theorem op_own {E : XK} {op : Operator} {C f : Addr} {sp : Sp} (F : FnR X.prog X.w X.K X.mg X.base (L2.CX X.prog X.w) k f sp) (hr : Room k X.A) (hx : Passes (L2.CX X.prog X.w) X E) (hc : PySem.W.selfFirst X.K C = true) (hs : PySem.W.findIn X.K (.ref C) (PySem.dunder op.info.2) = some (some (.ref f))) (hf : PySem.W.isFn X.K (.ref f) = true) :
    OpR X (binaryOp op) (rOwn C sp E) := by
  intro pins s σ H x y u v Q I rx ry h
  obtain ⟨a, b, dx, dy, fs, gs, rfl, rfl, ha, hb, q⟩ := h
  cases rx
  cases ry
  obtain ⟨mA, J, _⟩ := ins_get I.hok ha
  obtain ⟨mB, J', _⟩ := ins_get I.hok hb
  obtain ⟨od, J, _⟩ := J.look
  obtain ⟨od', J', _⟩ := J'.look
  obtain ⟨m, hF⟩ := I.fr
  refine PySem.W.binop_K hF I.ok.mod.kin J J'.type hc hs hf ?_
  refine wpAny_mono (wpAny_call (run_fnR (vs := [V.ref a, V.ref b]) F hr hx I (.cons rfl (.cons rfl .nil)) q)) (fun r s' hq => ?_) fun _ _ z => z
  obtain ⟨z, H', I', rz, qz⟩ := hq
  have key : EP X pins σ Q r s' := ⟨z, H', I', rz, qz⟩
  cases r with
  | notImplemented => cases z <;> first | (obtain ⟨t, e⟩ := rz; cases e) | cases rz
  | _ => exact key
def eOwn (c : Str) (mm : List D → Bx → R D) (fa fb : EM) : EM := fun S w => (fa S w).bind fun d w1 => (fb S w1).bind fun e w2 => if isCls c d && isCls c e then mm [d, e] w2 else .bad
theorem de_own {E : XK} {op : Operator} (hK : g.K = X.K) (M : OpK X.prog X.w X.K X.mg X.base g.cls c (PySem.dunder op.info.2) k mm) (hr : Room k X.A) (hx : Passes (L2.CX X.prog X.w) X E) (ha : DE X g (kE E) a fa) (hb : DE X g (kE E) b fb) : DE X g (kE E) (.BinOp a op b pos) (eOwn c mm fa fb) := by
  obtain ⟨C, f, fd, ps, hc, sf, fi, hf, F, bi⟩ := M.ex
  obtain ⟨ta, pa, ra⟩ := ha.run
  obtain ⟨tb, pb, rb⟩ := hb.run
  refine ⟨_, pe_op (op_own (raw_spM (g := g) F bi) hr hx sf fi hf) pa pb, fun σ H Q F S w R h => ?_⟩
  refine ra σ H _ F S w R (PostG.imp (PostG.bind h) fun d w1 hd h1 v H1 F1 x1 r1 => ?_)
  refine rb σ H1 _ F1 S w1 (R.ext x1) (PostG.ext x1 (PostG.bind h1) fun e w2 h2 u H2 F2 x2 r2 => ?_)
  have x12 := x1.trans x2
  by_cases hd : (isCls c d && isCls c e) = true
  · rw [if_pos hd] at h2
    rw [Bool.and_eq_true] at hd
    have r1' := r1.mono x2.ff
    obtain ⟨q, C', dx, vs, ev, hc', hq⟩ := r1'.isCls hd.1
    obtain rfl : C' = C := Option.some.inj (hc'.symm.trans hc)
    obtain ⟨q2, C2, dx2, vs2, ev2, hc2, hq2⟩ := r2.isCls hd.2
    obtain rfl : C2 = C' := Option.some.inj (hc2.symm.trans hc)
    refine ⟨q, q2, dx, dx2, vs, vs2, ev, ev2, x2.sub _ _ hq, x2.sub _ _ hq2, ?_⟩
    rw [← hK]
    exact ⟨rfl, g.bq, F2, [d, e], w2, x2.sub, x2.bx, .cons r1' (.cons r2 .nil), Post.of x12 h2⟩
  · rw [if_neg hd] at h2; exact h2.elim
end
end Y
namespace Y
open PySem PySem.Spec PyProof.Rows L2
/-! ### super().m(..) as the first statement's value -/
/-- a def's block, where the def itself may be looked at -/
structure PSsF (X : Cx) (body st : List Stmt) (t : TS) : Prop where
  run : ∀ (pins : List (Addr × Obj)) (s : Shared) (σ : L2.St) (H : Hp) (D : Ends), Inv X pins σ H s → t D σ H → PySem.wpAt (model X.prog X.w) X.A (.func body X.env) (execs st X.env) (SP X pins D) X.xe s
theorem PSs.f {X : Cx} {body st : List Stmt} {t : TS} (h : PSs X st t) : PSsF X body st t := ⟨fun pins s σ H D I q => PySem.wpAt_of_wpAny (h.run pins s σ H D I q)⟩
/-- what super() asks of the frame -/
structure SupX (X : Cx) (body : List Stmt) (f D C : Addr) : Prop where
  fu : X.env.func = some f
  kd : X.env.scope.kind = .function
  ks : X.env.scope.names.lookup ("super" : Str) = some .globalImplicit
  kc : X.env.scope.names.lookup ("__class__" : Str) = some .free
  cell : ∃ cc cl cld csl, X.env.cells.lookup ("__class__" : Str) = some cc ∧ X.K.lookup cc = some ⟨cl, cld, .cell (some (.ref D)), csl⟩
  fn : ∃ oc od fd osl ar, X.K.lookup f = some ⟨oc, od, .func fd, osl⟩ ∧ (fd.params.posonlyargs ++ fd.params.args).head? = some ar ∧ X.N[0]? = some ar.arg ∧ X.env.scope.names.lookup ar.arg = some .local
  code : ∃ cda ccl cdd vs ccs file tf, X.env.code = .ref cda ∧ X.K.lookup cda = some ⟨ccl, cdd, .fields vs, ccs⟩ ∧ vs[2]? = some (.str file tf) ∧ ((X.prog.main.file : Str) == file) = true
  top : (X.prog.main.scope.names.lookup ("super" : Str)).isSome = false
  mg : X.mg "super" = none
  cd : ∃ cdD, PySem.W.clsIn X.K D = some cdD
  sub : PySem.W.mroIn X.K C (.ref D) = some true
  st : PySem.W.nsIn X.K cStatics "thirdparty.any" = some none
def tSup (C : Addr) (sp : Sp) (E : XK) (i : Nat) (ta : TA) (k : TS) : TS := fun N σ H => ∃ a dx fs, σ[0]? = some (some (.ref a)) ∧ H a = some (.ins C dx fs) ∧ ta σ H fun vs H1 => sp (.ref a :: vs) H1 (fun v H2 => k N (σ.set i (some v)) H2) E
theorem pssf_super {X : Cx} {body : List Stmt} {CX : CXT} {k i : Nat} {f f2 D C : Addr} {sp : Sp} {E : XK} {x m : Str} {p0 p1 p2 pt apos pos : Pos} {e : Expr} {es : List Expr} {rest : List Stmt} {ta : TA} {kt : TS} {pl : Sem Bool}
    (U : SupX X body f D C) (hm : PySem.W.ks_superIn X.K C D m = some (some (.ref f2))) (ht : PySem.W.typeIn X.K (.ref f2) = some (.type "function")) (hfi : PySem.W.fnIn X.K f2 = true) (hn : (m == ("__class__" : Str)) = false)
    (F : FnR X.prog X.w X.K X.mg X.base CX k f2 sp) (hr : Room k X.A) (hx : Passes CX X E) (ha : PA X (e :: es) ta) (hrest : PSsF X body rest kt)
    (hN : X.N.Nodup) (hi : X.N[i]? = some x) (hxl : X.env.scope.names.lookup x = some .local)
    (hst : starEach (e :: es) X.env = (false, eval e X.env) :: starEach es X.env) (hpl : (backTo pos (starEach es X.env)).any (·.1) = false)
    (hev : eval (.Call (.Attribute (.Call (.Name "super" p0) [] [] p1) m apos) (e :: es) [] pos) X.env = (do
      let ov ← attributeBase (.Call (.Name "super" p0) [] [] p1) m X.env (eval (.Call (.Name "super" p0) [] [] p1) X.env)
      standAt apos.atName
      let (f, first) ← holding [ov] (getMethod ov m pl)
      callWith pos f first (backTo pos (starEach (e :: es) X.env)) []))
    (hs : swapsWith (.Call (.Attribute (.Call (.Name "super" p0) [] [] p1) m apos) (e :: es) [] pos) (some (.Name x pt)) p2.line X.env = pure false) :
    PSsF X body (.Assign [.Name x pt] (.Call (.Attribute (.Call (.Name "super" p0) [] [] p1) m apos) (e :: es) [] pos) p2 :: rest) (tSup C sp E i ta kt) := by
  refine ⟨fun pins s σ H N I q => ?_⟩
  obtain ⟨a, dx, fs, h0, hA, q⟩ := q
  obtain ⟨oc, od, fd, osl, ar, lk, hp, hN0, hka⟩ := U.fn
  obtain ⟨cda, ccl, cdd, vs, ccs, file, tf, hco, hcode, hvs, hfile⟩ := U.code
  obtain ⟨cc, cl, cld, csl, hcc, hcell⟩ := U.cell
  obtain ⟨cdD, hD⟩ := U.cd
  have KX := I.kIn
  obtain ⟨oD, hD1, hD2⟩ : ∃ oD, s.heap.get? D = some oD ∧ oD.data = .cls cdD := by
    unfold PySem.W.clsIn at hD
    split at hD
    · rename_i c d cd' sl ho
      cases hD
      exact ⟨_, KX _ _ ho, rfl⟩
    · cases hD
  obtain ⟨mA, J, _⟩ := ins_get I.hok hA
  obtain ⟨oda, J, _⟩ := J.look
  obtain ⟨ml, hns, hloc⟩ := I.loc
  obtain ⟨u, ru, hl⟩ := hloc 0 ar.arg (.ref a) hN0 h0 (.inl hka)
  obtain rfl : u = Value.ref a := ru
  have hself : ml ar.arg = some (.ref a) := by
    rcases hl with ⟨_, hm⟩ | ⟨hk, _⟩
    · exact hm
    · rcases hk with hk | hk <;> (rw [show X.env.kindOf ar.arg = _ from hka] at hk; cases hk)
  refine ks_wpAt_execs_cons (ks_wpAt_Assign_Name (ks_wpAt_MethodCall (pl := pl) ?_ hev) hs)
  refine ks_wpAt_super_base U.ks U.kc hn U.fu (KX _ _ lk) rfl hp hco (KX _ _ hcode) rfl hvs hfile U.top ?_
  obtain ⟨mb, b1, b2⟩ := I.mod.blt
  refine PySem.W.ks_loadName_global U.kd U.ks (Calls.loadGlobal_builtin (by rw [I.ok.glob]; exact I.mod.glob.keeps I.bk) U.mg (by rw [I.ok.blt]; exact b1.keeps I.bk) ((b2 "super" (by decide)).trans (by decide +kernel)) ⟨rfl, ?_⟩)
  refine wpAny_loadName_free U.kd U.kc hcc ⟨_, KX _ _ hcell, rfl⟩ ?_
  refine wpAny_loadName_local U.kd hka hns hself ?_
  obtain ⟨hh, g, d, t, os⟩ := s
  refine ks_wpAny_isType_cls hD1 hD2 ⟨rfl, ?_⟩
  refine ks_wpAny_call_super hD1 hD2 J.at_ J.cls (fun c e => ?_) (PySem.W.looks_mroIn KX U.sub) (fun h' hso kp => ?_)
  · have := J.no
    unfold PySem.W.notCls at this
    rw [e] at this
    exact Bool.noConfusion this
  have I1 : Inv X pins σ H ⟨h', g, d, t, os⟩ := I.kept (t' := t) kp
  have KX1 := I1.kIn
  obtain ⟨mA1, J1, _⟩ := ins_get I1.hok hA
  obtain ⟨oda1, J1, _⟩ := J1.look
  cases hc : PySem.W.clsIn X.K C with
  | none => unfold PySem.W.ks_superIn at hm; rw [hc] at hm; cases hm
  | some cd =>
    have hm' := hm
    unfold PySem.W.ks_superIn at hm'
    rw [hc] at hm'
    obtain ⟨of, hof, hofc⟩ : ∃ of, h'.get? f2 = some of ∧ of.cls = .type "function" := by
      have ht' : (X.K.lookup f2).map (·.cls) = some (.type "function") := ht
      cases z : X.K.lookup f2 with
      | none => rw [z] at ht'; cases ht'
      | some of => rw [z] at ht'; exact ⟨of, KX1 _ _ z, Option.some.inj ht'⟩
    refine ks_wpAny_getMethod_super hso (PySem.W.looks_opaque KX1 U.st) (l₀ := cd.mro) ?_ rfl KX1 hm' hof hofc (PySem.W.ks_ne KX1 J1 hc) hn ?_
    · exact fun A Q E s k q => wpAny_bind ((PySem.W.looks_clsIn KX1 hc) A _ E s k (wpAny_pure q))
    have I2 := ClX.met_new (g := f2) (C := a) I1
    refine ClX.callwith_cm I2 (ClX.base_none I1 (Nat.le_refl _)) hfi (thn (ha.run pos _ _ σ H _ I2 q) fun us s3 ⟨vs, H2, I3, rv, q2⟩ => ⟨⟨ClX.pin_at I3, I3.kIn⟩, ?_⟩) hst hpl
    refine thn (ClX.run_cm F hr hx I3 rv q2) fun v s4 ⟨y, H4, I4, r4, q4⟩ => ?_
    refine store_ok I4 hN hi (.inl hxl) r4 (fun s5 I5 => hrest.run pins s5 _ H4 N I5 q4) (.inr hxl)
/-! ### a def of the text that looks at its class -/
/-- the def st at f, its cell __class__ holds the class at D -/
structure FunS (P : Program) (K : PySem.W.Frag) (x qual : Str) (st : Stmt) (f D : Addr) (fd : FuncData) (F : NdefX.NF) : Prop where
  ex : ∃ (oc : Value) (od : Option Addr) (kV doc pm : Value) (an : Option Addr) (cda : Addr) (ct : Value) (osl : Array (Option Value)) (cc : Addr) (cl : Value) (cld : Option Addr) (csl : Array (Option Value)) (ccl : Value) (cdd : Option Addr) (vs : Array Value) (ccs : Array (Option Value)) (file : Str) (tf : Tok),
    F = ⟨x, qual, defArgs st, defBody st, defScope st, [("__class__", cc)], cda⟩ ∧
    fd = PySem.W.fnX x qual (defArgs st) (defBody st) (defScope st) [("__class__", cc)] .none kV doc pm an (.ref cda) ct ∧ K.lookup f = some ⟨oc, od, .func fd, osl⟩ ∧ PySem.W.codeIn K (.ref cda) qual = true ∧
    K.lookup cc = some ⟨cl, cld, .cell (some (.ref D)), csl⟩ ∧ K.lookup cda = some ⟨ccl, cdd, .fields vs, ccs⟩ ∧ vs[2]? = some (.str file tf) ∧ ((P.main.file : Str) == file) = true
  kp : PySem.W.keepIn K (.ref f) = true
/-- a def that looks at its class, by its body -/
theorem fn_ofS {CX : CXT} {P : Program} {w : World} {K : PySem.W.Frag} {mg : Str → Option Value} {base : Heap} {k : Nat} {f D : Addr} {fd : FuncData} {F : NdefX.NF} {x qual : Str} {st : Stmt} {N ps : List Str} {sp : Sp} (G : FunS P K x qual st f D fd F) (S : NdefX.NScope N ps ["__class__"] (defScope st))
    (len : ∀ vs H Q E, sp vs H Q E → vs.length = ps.length)
    (hbody : ∀ (A : Around) (outer : List Env) (s : Shared) (H : Hp) (vs : List V) (Q : VK) (E : XK), Room k (A.deeper (NdefX.envF F f s.heap.objs.size)) → sp vs H Q E →
      ∃ t, PSsF (NdefX.ncx CX P w K mg base N F f A outer s H E) (defBody st) (defBody st) t ∧ t { nx := fun _ H' => Q .non H', rt := Q } (NdefX.startF N vs [some (.ref D)]) H) :
    FnOk P w K mg base CX (k + 1) f fd ps sp := by
  obtain ⟨oc, od, kV, doc, pm, an, cda, ct, osl, cc, cl, cld, csl, ccl, cdd, vs0, ccs, file, tf, rfl, rfl, lk, hcd, hcell, hcode, hvs, hfile⟩ := G.ex
  refine ⟨len, fun A outer s H args us vs Q E hr e0 hb r hsp => ?_⟩
  have hl := len _ _ _ _ hsp
  have KX : K.In s.heap := e0.mod.kin.keeps fun b o e => (e0.bs b o e).1
  have lim : s.heap.NoLimit := e0.mod.nolimit.keeps fun b o e => (e0.bs b o e).1
  refine codeAny_call_function hr.depth (KX _ _ lk) rfl S.co S.gen rfl (PySem.W.codeRec_of KX hcd) (hb _ _ _ _ ?_)
  refine wpAny_newFunctionEnv S.nocell (fun ⟨n, _⟩ hy => S.par n (List.of_mem_zip hy).1) (fun h₁ hns hsb => ⟨lim.fresh _ hsb, ?_⟩) S.kind
  have kp : ∀ b o, s.heap.get? b = some o → h₁.get? b = some o := fun b o e => hsb.extBut b o (Nat.ne_of_lt (Heap.lt_size e)) (Heap.get?_push_of_some _ e)
  have C : NdefX.CellsAt [("__class__", cc)] ["__class__"] [some (V.ref D)] s.heap H := by
    have key : ∀ (y : Str) (c : Addr), List.lookup y [(("__class__" : Str), cc)] = some c → c = cc ∧ y = "__class__" := fun y c e => by
      rw [List.lookup_cons] at e
      split at e
      · rename_i h
        exact ⟨(Option.some.inj e).symm, by simpa using h⟩
      · simp at e
    refine ⟨rfl, fun y c e => ?_, fun x y c e1 e2 => ?_, fun i y e => ?_⟩
    · obtain ⟨rfl, _⟩ := key y c e
      exact ⟨(e0.bs _ _ (e0.mod.kin _ _ hcell)).2, some (.ref D), _, KX _ _ hcell, rfl⟩
    · rw [(key x c e1).2, (key y c e2).2]
    · cases i with
      | zero =>
        cases e
        exact ⟨cc, by simp, fun v hv => by cases hv; exact ⟨.ref D, rfl, _, KX _ _ hcell, rfl⟩⟩
      | succ i => simp at e
  obtain ⟨t, ht, hq⟩ := hbody A outer s H vs Q E (hr.deeper _) hsp
  have I : Inv (NdefX.ncx CX P w K mg base N ⟨x, qual, defArgs st, defBody st, defScope st, [("__class__", cc)], cda⟩ f A outer s H E) [] (NdefX.startF N vs [some (.ref D)]) H { s with heap := h₁, toks := s.toks + (ps.zip us).length } := NdefX.inv_startN S hr.hd e0 hl r C hns kp
  refine ks_codeAny_funcAt (PySem.wpAt_mono (ht.run [] _ _ H _ I hq) (fun fl s' hs => ?_) fun e s' hs => hs)
  have fin : ∀ {σ' : L2.St} {H' : Hp} {v : V} {u : Value}, Inv (NdefX.ncx CX P w K mg base N ⟨x, qual, defArgs st, defBody st, defScope st, [("__class__", cc)], cda⟩ f A outer s H E) [] σ' H' s' → RelV v u → Q v H' → CE outer P w H s Q u s' :=
    fun {σ' H' v u} J rv q => ⟨v, H', J.os, J.bare, J.base, J.hok, rv, q⟩
  cases fl with
  | ret u =>
    obtain ⟨v, σ', H', J, rv, q⟩ := hs
    exact fin J rv q
  | next =>
    obtain ⟨σ', H', J, q⟩ := hs
    exact fin (v := V.non) (u := Value.none) J rfl q
  | brk =>
    obtain ⟨_, _, _, q⟩ := hs
    exact False.elim q
  | cont =>
    obtain ⟨_, _, _, q⟩ := hs
    exact False.elim q
/-! ### .. over data -/
def eSup (c : Str) (n : Nat) (mm : List D → Bx → R D) (fs : AM) : EM := fun S w => match S[(0 : Nat)]? with
  | some (some (.dat d)) => if isCls c d then (fs S w).bind fun ds w1 => if ds.length + 1 = n then mm (d :: ds) w1 else .bad else .bad
  | _ => .bad
/-- what super().m is, for the def at f of the class D, reached through the class C -/
structure SupK (P : Program) (w : World) (K : PySem.W.Frag) (mg : Str → Option Value) (base : Heap) (cls : CT) (DD : Addr) (c m : Str) (k n : Nat) (mm : List D → Bx → R D) : Prop where
  ex : ∃ (C f2 : Addr) (fd : FuncData) (ps : List Str), cls c = some C ∧ PySem.W.mroIn K C (.ref DD) = some true ∧ PySem.W.ks_superIn K C DD m = some (some (.ref f2)) ∧ PySem.W.typeIn K (.ref f2) = some (.type "function") ∧ PySem.W.fnIn K f2 = true ∧
    FnOk P w K mg base (L2.CX P w) k f2 fd ps (spM K cls n mm) ∧ Binds K fd ps []
structure DSsF (X : Cx) (g : G) (E : EK) (F0 : FH) (H0 : Hp) (body st : List Stmt) (m : SM) : Prop where
  run : ∃ t, PSsF X body st t ∧ ∀ N σ H F S w B, RelS g F0 H0 B F w S σ H → PostS g F0 H0 B E N (m S w) → t N σ H
theorem DSs.f {X : Cx} {g : G} {E : EK} {F0 : FH} {H0 : Hp} {body st : List Stmt} {m : SM} (h : DSs X g E F0 H0 st m) : DSsF X g E F0 H0 body st m := let ⟨t, p, r⟩ := h.run; ⟨t, PSs.f p, r⟩
/-- what the frame has for super(), save the class that is reached -/
structure SupF (X : Cx) (f DD : Addr) : Prop where
  fu : X.env.func = some f
  kd : X.env.scope.kind = .function
  ks : X.env.scope.names.lookup ("super" : Str) = some .globalImplicit
  kc : X.env.scope.names.lookup ("__class__" : Str) = some .free
  cell : ∃ cc cl cld csl, X.env.cells.lookup ("__class__" : Str) = some cc ∧ X.K.lookup cc = some ⟨cl, cld, .cell (some (.ref DD)), csl⟩
  fn : ∃ oc od fd osl ar, X.K.lookup f = some ⟨oc, od, .func fd, osl⟩ ∧ (fd.params.posonlyargs ++ fd.params.args).head? = some ar ∧ X.N[(0 : Nat)]? = some ar.arg ∧ X.env.scope.names.lookup ar.arg = some .local
  code : ∃ cda ccl cdd vs ccs file tf, X.env.code = .ref cda ∧ X.K.lookup cda = some ⟨ccl, cdd, .fields vs, ccs⟩ ∧ vs[2]? = some (.str file tf) ∧ ((X.prog.main.file : Str) == file) = true
  top : (X.prog.main.scope.names.lookup ("super" : Str)).isSome = false
  mg : X.mg "super" = none
  cd : ∃ cdD, PySem.W.clsIn X.K DD = some cdD
  st : PySem.W.nsIn X.K cStatics "thirdparty.any" = some none
theorem dssf_super {X : Cx} {g : G} {E : XK} {F0 : FH} {H0 : Hp} {body rest : List Stmt} {f DD : Addr} {c m x : Str} {k n i : Nat} {mm : List D → Bx → R D} {p0 p1 p2 pt apos pos : Pos} {e : Expr} {es : List Expr} {fs : AM} {m2 : SM} {pl : Sem Bool} (hK : g.K = X.K) (U : SupF X f DD) (M : SupK X.prog X.w X.K X.mg X.base g.cls DD c m k n mm)
    (hr : Room k X.A) (hx : Passes (L2.CX X.prog X.w) X E) (ha : DA X g (kE E) (e :: es) fs) (hrest : DSsF X g (kE E) F0 H0 body rest m2) (hN : X.N.Nodup) (hi : X.N[i]? = some x := by rfl) (hxl : X.env.scope.names.lookup x = some .local := by rfl) (hn : (m == ("__class__" : Str)) = false := by decide)
    (hst : starEach (e :: es) X.env = (false, eval e X.env) :: starEach es X.env := by rfl) (hpl : (backTo pos (starEach es X.env)).any (·.1) = false := by rfl)
    (hev : eval (.Call (.Attribute (.Call (.Name "super" p0) [] [] p1) m apos) (e :: es) [] pos) X.env = (do
      let ov ← attributeBase (.Call (.Name "super" p0) [] [] p1) m X.env (eval (.Call (.Name "super" p0) [] [] p1) X.env)
      standAt apos.atName
      let (f, first) ← holding [ov] (getMethod ov m pl)
      callWith pos f first (backTo pos (starEach (e :: es) X.env)) []) := by rfl)
    (hs : swapsWith (.Call (.Attribute (.Call (.Name "super" p0) [] [] p1) m apos) (e :: es) [] pos) (some (.Name x pt)) p2.line X.env = pure false := by rfl) :
    DSsF X g (kE E) F0 H0 body (.Assign [.Name x pt] (.Call (.Attribute (.Call (.Name "super" p0) [] [] p1) m apos) (e :: es) [] pos) p2 :: rest) (sSeq (sSet i (eSup c n mm fs)) m2) := by
  obtain ⟨C, f2, fd, ps, hc, hsub, hm, ht, hfi, F, hb⟩ := M.ex
  obtain ⟨ta, pa, ra⟩ := ha.run
  obtain ⟨kt, pk, rk⟩ := hrest.run
  refine ⟨_, pssf_super (pl := pl) ⟨U.fu, U.kd, U.ks, U.kc, U.cell, U.fn, U.code, U.top, U.mg, U.cd, hsub, U.st⟩ hm ht hfi hn (raw_spM (g := g) F hb) hr hx pa pk hN hi hxl hst hpl hev hs, fun N σ H F S w B R h => ?_⟩
  unfold sSeq sSet eSup at h
  cases h0 : S[(0 : Nat)]? with
  | none => rw [h0] at h; exact h.elim
  | some o =>
    match o, h0, h with
    | none, h0, h => rw [h0] at h; exact h.elim
    | some (.own _), h0, h => rw [h0] at h; exact h.elim
    | some (.ins _ _), h0, h => rw [h0] at h; exact h.elim
    | some (.lam _), h0, h => rw [h0] at h; exact h.elim
    | some (.dat d), h0, h =>
      rw [h0] at h
      simp only at h
      by_cases hd : isCls c d = true
      · rw [if_pos hd] at h
        obtain ⟨v, hv, rd⟩ := R.rel.sl 0 _ h0
        have rd : DR g F v d := rd
        obtain ⟨q, C', dx, vs, rfl, hc', hq⟩ := rd.isCls hd
        obtain rfl : C' = C := Option.some.inj (hc'.symm.trans hc)
        refine ⟨q, dx, vs, hv, R.rel.sub _ _ hq, ?_⟩
        refine ra σ H _ F S w R.rel ?_
        cases hf : fs S w with
        | bad => rw [hf] at h; exact h.elim
        | err c' fs' w' => rw [hf] at h; exact fun cl a vs H' F' e nn k l q => h σ H' F' (R.ext' e) cl a vs (R.ext.fresh nn) k l q
        | ok ds w1 =>
          rw [hf] at h
          intro us H1 F1 x1 r1
          simp only [Y.R.bind_ok] at h
          by_cases hn' : ds.length + 1 = n
          · rw [if_pos hn'] at h
            rw [← hK]
            refine ⟨by rw [List.length_cons, r1.length]; exact hn', g.bq, F1, d :: ds, w1, x1.sub, x1.bx, .cons (rd.mono x1.ff) r1, ?_⟩
            have R1 := R.ext' x1
            cases hmm : mm (d :: ds) w1 with
            | bad => rw [hmm] at h; exact h.elim
            | err c' fs' w' => rw [hmm] at h; exact fun cl a vs H' F' e nn k l q => h σ H' F' (R1.ext' e) cl a vs (R1.ext.fresh nn) k l q
            | ok z w2 =>
              rw [hmm] at h
              intro v2 H2 F2 x2 r2
              exact rk N _ H2 F2 _ w2 B ((R1.ext' x2).set i r2) h
          · rw [if_neg hn'] at h; exact h.elim
      · rw [if_neg hd] at h; exact h.elim
end Y
namespace PySem
open Sem (wp)
open AutoSeq1 (wpAny_loadPart')
theorem meets_enumerate_newU (l : Addr) (items : Array Value) (n : Nat) (dct : Option Addr) (sl : Array (Option Value)) :
    Meets (Builtin.«enumerate.__new__» ⟨[.type "enumerate", .ref l], []⟩) (fun _ R s => s.heap.get? l = some { cls := .type "tuple", dict := dct, data := .seq items n, slots := sl } ∧
      R (.ok (.ret (.ref (s.heap.push { cls := .type "tuple_iterator", data := .fields #[.ref l, .int 0 0] }).objs.size)))
        { s with heap := (s.heap.push { cls := .type "tuple_iterator", data := .fields #[.ref l, .int 0 0] }).push { cls := .type "enumerate", data := .fields #[.none, .bool false, .ref s.heap.objs.size, rawInt 0, .none, .none] } }) :=
  .of_wp fun prog w A R s h => by
    obtain ⟨hp, g, d, tk, os⟩ := s; obtain ⟨hl, h⟩ := h
    have hsub := sub_enumerate
    have hL : Heap.IsTuple (Shared.heap ⟨hp, g, d, tk, os⟩) l items := ⟨_, hl, rfl, n, rfl⟩
    wp_walk using wpAny_loadPart' hl
    refine wpAny_stack_any fun st => wpAny_pure ?_
    split
    · rename_i c _ _ _ _ _
      cases (c == Value.type "enumerate")
      · wp_walk using wpAny_loadPart' hl, wpAny_pyIter_tuple hL
        exact ⟨_, rfl, h⟩
      · wp_walk using wpAny_loadPart' hl, wpAny_pyIter_tuple hL
        exact ⟨_, rfl, h⟩
    · wp_walk using wpAny_loadPart' hl, wpAny_pyIter_tuple hL
      exact ⟨_, rfl, h⟩
theorem call_enumerate_tuple {prog : Program} {w : World} {A : Around} {E : Value → Shared → Prop} {s : Shared} {l : Addr} {items : Array Value} {Q : Value → Shared → Prop} (hL : s.heap.IsTuple l items)
    (h : ∀ h', IsEnum h' (s.heap.objs.size + 1) s.heap.objs.size 0 .none → h'.IsTupleIter s.heap.objs.size l 0 → h'.objs.size = s.heap.objs.size + 2 →
      (∀ b o, s.heap.get? b = some o → h'.get? b = some o) → Q (.ref (s.heap.objs.size + 1)) { s with heap := h' }) :
    wpAny (model prog w) A (call (.type "enumerate") [.ref l]) Q E s := by
  obtain ⟨⟨c, dct, dt, sl⟩, hl, hc, n, hd⟩ := hL
  replace hc : c = .type "tuple" := hc
  replace hd : dt = .seq items n := hd
  subst hc hd
  refine callType_new F.called_enumerate (by decide) (F.typeCall_enumerate_1 _) (F.newCall_enumerate_1 _) (fun obj => F.args_object_init_2 obj _) F.entry_enumerate_new
    (meets_enumerate_newU l items n dct sl) ⟨hl, ?_⟩
  have hz : (s.heap.push { cls := .type "tuple_iterator", data := .fields #[.ref l, .int 0 0] }).objs.size = s.heap.objs.size + 1 := Heap.size_push ..
  show _ ∧ _
  rw [hz]
  have he : IsEnum ((s.heap.push { cls := .type "tuple_iterator", data := .fields #[.ref l, .int 0 0] }).push
      { cls := .type "enumerate", data := .fields #[.none, .bool false, .ref s.heap.objs.size, rawInt 0, .none, .none] }) (s.heap.objs.size + 1) s.heap.objs.size 0 .none := by
    have := Heap.get?_push_size (s.heap.push { cls := .type "tuple_iterator", data := .fields #[.ref l, .int 0 0] })
      (o := { cls := .type "enumerate", data := .fields #[.none, .bool false, .ref s.heap.objs.size, rawInt 0, .none, .none] }) rfl
    rw [hz] at this; exact this
  refine ⟨⟨_, he, rfl⟩, h _ he ⟨_, Heap.get?_push_of_some _ (Heap.get?_push_size _ rfl), rfl, rfl⟩ (by rw [Heap.size_push, hz]) fun b o x => Heap.get?_push_of_some _ (Heap.get?_push_of_some _ x)⟩
end PySem
namespace Y
open PySem PySem.Spec PyProof.Rows L2
/-! ### enumerate of a tuple -/
def ItEu (K : PySem.W.Frag) (a : Addr) : It :=
  ⟨fun i H => ∃ (xs : List V) (x : V), SqT K H a xs ∧ xs[i]? = some x, fun i H v H' => ∃ T x, v = .ref T ∧ H T = none ∧ H' = upd H T (.tup [.int (i : Nat), x]) ∧ ∀ xs, SqT K H a xs → xs[i]? = some x, fun i H => ∃ xs : List V, SqT K H a xs ∧ xs.length = i⟩
theorem turn_eu {P : Program} {w : World} {K : PySem.W.Frag} {elts : List Expr} {kk : Nat} {tpos : Pos} (a e it : Addr) :
    Turn P w K (.Tuple elts kk tpos) (ItEu K a) [e, it] e (fun i h => (∃ old, IsEnum h e it ((i : Nat) : Int) old) ∧ h.IsTupleIter it a i ∧ e ≠ it ∧ a ≠ it ∧ a ≠ e) where
  mem := List.mem_cons_self ..
  obj := fun i h st b hb => by
    obtain ⟨⟨old, he⟩, ⟨o, ho, _, hd⟩, _⟩ := st
    rcases List.mem_cons.mp hb with z | z
    · subst z; exact ⟨_, he, fun v q => nomatch q⟩
    · cases List.mem_singleton.mp z; exact ⟨o, ho, fun v q => by rw [hd] at q; cases q⟩
  keep := fun i h h' st k => by
    obtain ⟨⟨old, he⟩, ⟨o, ho, r⟩, hne⟩ := st
    exact ⟨⟨old, k e (by simp) _ he⟩, ⟨o, k it (by simp) _ ho, r⟩, hne⟩
  item := by
    intro X hP hw hK hc i pins s σ H E I hf st hg
    subst hP hw hK
    obtain ⟨⟨old, he⟩, hit, hne, nai, nae⟩ := st
    obtain ⟨xs, x, hq, hx⟩ := hg
    obtain ⟨its, rv, p, hz⟩ := I.tuple hq
    obtain ⟨u, hu, ru⟩ := rv.get hx
    have hel : e < s.heap.objs.size := Heap.lt_size he
    have hil : it < s.heap.objs.size := by obtain ⟨_, q, _⟩ := hit; exact Heap.lt_size q
    have hne' : e ∉ [it, a] := fun z => by
      rcases List.mem_cons.mp z with z | z
      · exact hne z
      · exact nae (List.mem_singleton.mp z).symm
    have hlt : i < its.toArray.size := by
      rw [List.size_toArray]
      exact (List.getElem?_eq_some_iff.mp hu).1
    refine wpAny_pyNext_enum_itemD (Draws.tuple (A := X.A.in1) (I.ok.hd hc) it a nai its.toArray) he ⟨hit, p⟩ hlt hne hne' fun v h1 tk hv ho hit1 hT hsz hk => ?_
    have hv : v = u := by
      have hv : its.toArray[i]? = some v := hv
      rw [List.getElem?_toArray, hu] at hv
      exact (Option.some.inj hv).symm
    subst hv
    refine ⟨_, rfl, wpAny_letOwnedTupleGo_enum (s := { s with heap := h1, toks := tk + 1 }) ho fun h2 he2 sb => ?_⟩
    have hT2 := (sb.2 s.heap.objs.size (Nat.ne_of_gt hel)).trans hT
    have out : ∀ b, b ∉ [e, it] → b ≠ e ∧ b ≠ it := fun b hb => ⟨fun z => hb (by simp [z]), fun z => hb (by simp [z])⟩
    have new : ObjOk X.prog X.w (upd H s.heap.objs.size (.tup [.int (i : Nat), x])) h2 s.heap.objs.size (.tup [.int (i : Nat), x]) :=
      ⟨by show 2 ≤ sizeLine; decide, [.int i tk, v], .cons ⟨_, rfl⟩ (.cons ru .nil), ⟨_, hT2, rfl, _, rfl⟩⟩
    have I1 : L2.Inv X pins σ (upd H s.heap.objs.size (.tup [.int (i : Nat), x])) { s with heap := h2, toks := tk + 1 } :=
      I.turnedNew (ch := [e, it]) (fun b ob hb q => (sb.2 b (out b hb).1).trans (hk b ob (out b hb).1 (out b hb).2 q)) hf (Nat.le_refl _) new
    refine ⟨.ref s.heap.objs.size, _, I1, rfl, ⟨_, x, rfl, I.hok.fresh (Nat.le_refl _), rfl, fun ys hy => by rw [I.tuple_inj hy hq]; exact hx⟩, ⟨⟨_, by rw [show ((i + 1 : Nat) : Int) = (i : Int) + 1 by omega]; exact he2⟩, ?_, hne, nai, nae⟩, fun b hb => ?_⟩
    · obtain ⟨o, q, r⟩ := hit1.1
      exact ⟨o, (sb.2 it (Ne.symm hne)).trans q, r⟩
    · have hb' : b < s.heap.objs.size := by
        rcases List.mem_cons.mp hb with z | z
        · rw [z]; exact hel
        · rw [List.mem_singleton.mp z]; exact hil
      rw [upd_ne (Nat.ne_of_lt hb')]
      exact (hf b hb).1
  done := by
    intro X hP hw hK hc i pins s σ H E I hf st hg
    subst hP hw hK
    obtain ⟨⟨old, he⟩, hit, hne, nai, nae⟩ := st
    obtain ⟨xs, hq, hx⟩ := hg
    obtain ⟨its, rv, p, hz⟩ := I.tuple hq
    obtain ⟨f0, f1, f2, f3, f4, f5⟩ := hf it (by simp)
    have hsz : i = its.toArray.size := by rw [List.size_toArray, ← rv.length]; exact hx.symm
    subst hsz
    exact wpAny_pyNext_enum_endD (Draws.tuple (A := X.A.in1) (I.ok.hd hc) it a nai its.toArray) he ⟨hit, p⟩ fun h' eb => ⟨rfl, I.turned (t' := s.toks) (fun b o hb q => eb b o hb q) f0 f1 f3 f4 f5⟩
  self := fun A i s Q E st h => let ⟨⟨_, he⟩, _⟩ := st; wpAny_pyIter_enum he h
section
variable {X : Cx} {g : G} {E : EK} {a : Expr} {pos p : Pos} {fa : EM}
theorem yld_eu {F : FH} {a : Addr} {xs : List V} {ds : List D} (h : SqT g.K F a xs) (r : DRs g F xs ds) : Yld g F (ItEu g.K a) (numbered ds) := by
  refine ⟨fun i z F2 H2 s1 s2 hd => ?_, fun F2 H2 s1 s2 => ⟨xs, same_T s2 (same_T s1.fz h), by rw [r.length, num_len]⟩⟩
  obtain ⟨d, hd', rfl⟩ := num_get hd
  obtain ⟨v, hv, rv⟩ := r.get hd'
  have hs : SqT g.K H2 a xs := same_T s2 (same_T s1.fz h)
  refine ⟨⟨xs, v, hs, hv⟩, fun x H3 hy => ?_⟩
  obtain ⟨T, y, e1, n, e2, e3⟩ := hy
  have e4 := e3 xs hs
  rw [hv] at e4; cases e4
  exact .inr ⟨T, _, _, e1, n, e2, .cons (.int _) (.cons (rv.mono s1) .nil), rfl⟩
def enumT : D → Option (List D)
  | .tup ds => some (numbered ds)
  | _ => none
def iEnumT (f : EM) : AM := fun S w => (f S w).bind fun d w1 => R.ofO (enumT d) w1
theorem di_enumT {elts : List Expr} {kk : Nat} {tpos : Pos} (hK : g.K = X.K) (hm : X.mg "enumerate" = none) (ha : DE X g E a fa) (hg : Gl X "enumerate" := by rfl) (hs : starEach [a] X.env = [(false, eval a X.env)] := by rfl) :
    DI X g E (.Tuple elts kk tpos) (.Call (.Name "enumerate" p) [a] [] pos) (iEnumT fa) := by
  obtain ⟨ta, pa, ra⟩ := ha.run
  have pA : PA X [a] (tCons ta tNil) := pa_cons pa pa_nil (by rw [hs]; rfl)
  refine ⟨fun σ H Rq => tCons ta tNil σ H fun vs H1 => ∃ a xs, vs = [.ref a] ∧ SqT X.K H1 a xs ∧ Rq (ItEu X.K a) H1, ⟨fun pins s σ H Rq I h => ?_⟩, fun σ H Rq F S w R h => ?_⟩
  · refine Call_ (ld_blt I hg hm boot_enumerate (PyProof.Rows.callWith_type1 (thn (pA.run pos pins s σ H _ I h) fun us s1 ⟨vs, H1, I1, r1, a, xs, ex, hq, q⟩ => ?_) hs rfl))
    subst ex
    obtain ⟨u, rfl, ru⟩ := vals1 r1
    have two : ∀ b, b ∈ [s1.heap.objs.size + 1, s1.heap.objs.size] → FpOk X pins H1 b := fun b hb => by
      have hle : s1.heap.objs.size ≤ b := by
        rcases List.mem_cons.mp hb with z | z
        · omega
        · have := List.mem_singleton.mp z; omega
      exact I1.fpOk hle (I1.hok.fresh hle)
    cases ru
    obtain ⟨its, rv, p', hz⟩ := I1.tuple hq
    have hal : a < s1.heap.objs.size := by obtain ⟨o, ho, _⟩ := p'; exact Heap.lt_size ho
    exact call_enumerate_tuple p' fun h' he hit hsz hk => wpAny_pyIter_enum he ⟨_, _, _, _, H1, rfl, I1.kept (t' := s1.toks) hk, turn_eu a (s1.heap.objs.size + 1) s1.heap.objs.size, ⟨⟨.none, he⟩, hit, Nat.succ_ne_self _, Nat.ne_of_lt hal, Nat.ne_of_lt (Nat.lt_succ_of_lt hal)⟩, two, q⟩
  · refine ra σ H _ F S w R (PostG.imp (PostG.bind h) fun d w1 hd h1 v H1 F1 x1 r1 => ?_)
    clear hd
    obtain ⟨ds, hz, q⟩ := post_ofO' h1
    rw [← hK]
    cases r1 with
    | tup h r => cases hz; exact ⟨_, _, rfl, same_T x1.sub h, q _ H1 F1 x1 (yld_eu h r)⟩
    | _ => cases hz
end
/-! ### what is not reached -/
def sNever : SM := fun _ _ => .bad
theorem ds_never {X : Cx} {g : G} {E : EK} {F0 : FH} {H0 : Hp} {st : Stmt} : DS X g E F0 H0 st sNever := ⟨_, ps_never, fun _ _ _ _ _ _ _ _ h => h⟩
end Y
namespace Y
open PySem PySem.Spec PyProof.Rows L2
/-- the classes are names of the module -/
def clsOf (mg : Str → Option Value) (tb : List (Addr × Str)) : CT := ⟨fun c => match mg c with
  | some (.ref a) => some a
  | _ => none, tb⟩
theorem clsOf_eq {mg : Str → Option Value} {tb : List (Addr × Str)} {c : Str} {C : Addr} (h : mg c = some (.ref C)) : clsOf mg tb c = some C := by unfold clsOf; simp only; rw [h]
section
variable {P : Program} {w : World} {K : PySem.W.Frag} {mg : Str → Option Value} {base : Heap} {cls : CT}
theorem end_ok {g : G} {F0 : FH} {H : Hp} {E : XK} {Q : VK} {k n : Nat} {body : SM} {ds : List D} {w0 : Bx} {m : List D → Bx → R D} (hl : ds.length = k) (hm : ∀ ds w, m ds w ≠ .bad → runF k n body ds w = m ds w) (hp : Post g F0 H Q E (m ds w0)) :
    PostS g F0 H F0 (kE E) { nx := fun _ H' => Q .non H', rt := Q } (body (startS n ds) w0) := by
  have hnb : m ds w0 ≠ .bad := fun e => by rw [e] at hp; exact hp
  have e := hm ds w0 hnb
  rw [← e] at hp
  unfold runF at hp
  rw [if_pos hl] at hp
  cases hbd : body (startS n ds) w0 with
  | nx S1 w1 => simp only [hbd] at hp; exact fun σ' H' F' R' => hp .non H' F' R'.ext .non
  | rt d w1 => simp only [hbd] at hp; exact hp
  | bk S1 w1 => simp only [hbd] at hp; exact hp.elim
  | ct S1 w1 => simp only [hbd] at hp; exact hp.elim
  | err S1 c fs w1 => simp only [hbd] at hp; exact fun σ' H' F' R' cl a vs n k l r => hp cl a vs H' F' R'.ext n k l r
  | bad => simp only [hbd] at hp; exact hp
/-- a def or a method by its body -/
theorem fnok_of {x qual : Str} {st : Stmt} {f : Addr} {fd : FuncData} {N ps : List Str} {k : Nat} {m : List D → Bx → R D} {body : SM} (F : Fun K x qual st f fd) (S : FnScope N ps (defScope st))
    (hbody : ∀ (cdv : Value), CodeIs K f cdv → ∀ (A : Around) (outer : List Env) (s : Shared) (H : Hp) (E : XK) (bx : BQ) (F0 : FH), Room k (A.deeper (envOfC qual (defScope st) s.heap.objs.size f cdv)) →
      DSs (cxOf (L2.CX P w) P w K mg base N qual (defScope st) f cdv A outer s H E) ⟨K, cls, bx⟩ (kE E) F0 H (defBody st) body)
    (hm : ∀ ds w, m ds w ≠ .bad → runF ps.length N.length body ds w = m ds w) : FnOk P w K mg base (L2.CX P w) (k + 1) f fd ps (spM K cls ps.length m) := by
  refine okC F S (fun vs H Q E h => h.1) (fun cdv hcv A outer s H vs Q E hr h => ?_)
  obtain ⟨hl, bx, F0, ds, w0, s1, b1, rd, hp⟩ := h
  obtain ⟨t, pt, rt⟩ := (hbody cdv hcv A outer s H E bx F0 hr).run
  exact ⟨t, pt, rt _ (start N vs) H F0 (startS N.length ds) w0 F0 (rel_start s1 b1 rd) (end_ok (by rw [← rd.length]; exact hl) hm hp)⟩
theorem relF_start {g : G} {F : FH} {H : Hp} {w : Bx} {vs : List V} {ds : List D} {N : List Str} {DD : Addr} (s : Same F H) (b : BxOk g F w H) (r : DRs g F vs ds) (hN : vs.length < N.length) : RelS g F H F F w (startS N.length ds) (NdefX.startF N vs [some (.ref DD)]) H := by
  have R0 := rel_start (N := N) s b r
  have key : ∀ (i : Nat) (x : SV), (startS N.length ds)[i]? = some (some x) → (NdefX.startF N vs [some (.ref DD)])[i]? = (start N vs)[i]? := fun i x hx => by
    have hi : i < ds.length := by
      unfold startS at hx
      rw [List.getElem?_append] at hx
      simp only [List.length_map] at hx
      by_cases hi : i < ds.length
      · exact hi
      · rw [if_neg hi, List.getElem?_replicate] at hx
        split at hx <;> cases hx
    unfold NdefX.startF L2.start
    rw [List.getElem?_append_left (by rw [List.length_map, r.length]; exact hi), List.getElem?_append_left (by rw [List.length_map, r.length]; exact hi)]
  refine ⟨⟨s, b, ?_, fun i x hx => ?_, fun i j ds1 ds2 v h1 h2 h3 h4 => ?_⟩, Ext.refl s b, FSame.refl F, fun i ds1 p h1 h2 => ?_⟩
  · have hr := r.length
    unfold startS NdefX.startF
    simp
    omega
  · obtain ⟨v, e1, e2⟩ := R0.rel.sl i x hx
    exact ⟨v, (key i x hx).trans e1, e2⟩
  · exact R0.rel.inj i j ds1 ds2 v h1 h2 ((key i _ h1).symm.trans h3) ((key j _ h2).symm.trans h4)
  · exact R0.fr i ds1 p h1 ((key i _ h1).symm.trans h2)
/-- a method that says super(), by its body -/
theorem fnok_ofS {x qual : Str} {st : Stmt} {f DD : Addr} {fd : FuncData} {NFF : NdefX.NF} {N ps : List Str} {k : Nat} {m : List D → Bx → R D} {body : SM} (G : FunS P K x qual st f DD fd NFF) (S : NdefX.NScope N ps ["__class__"] (defScope st))
    (hbody : ∀ (A : Around) (outer : List Env) (s : Shared) (H : Hp) (E : XK) (bx : BQ) (F0 : FH), Room k (A.deeper (NdefX.envF NFF f s.heap.objs.size)) →
      DSsF (NdefX.ncx (L2.CX P w) P w K mg base N NFF f A outer s H E) ⟨K, cls, bx⟩ (kE E) F0 H (defBody st) (defBody st) body)
    (hm : ∀ ds w, m ds w ≠ .bad → runF ps.length N.length body ds w = m ds w) : FnOk P w K mg base (L2.CX P w) (k + 1) f fd ps (spM K cls ps.length m) := by
  refine fn_ofS G S (fun vs H Q E h => h.1) fun A outer s H vs Q E hr h => ?_
  obtain ⟨hl, bx, F0, ds, w0, s1, b1, rd, hp⟩ := h
  obtain ⟨t, pt, rt⟩ := (hbody A outer s H E bx F0 hr).run
  have hlt : vs.length < N.length := by
    have q := congrArg List.length S.pre
    rw [List.length_take, List.length_append] at q
    simp only [List.length_singleton] at q
    omega
  exact ⟨t, pt, rt _ _ H F0 (startS N.length ds) w0 F0 (relF_start s1 b1 rd hlt) (end_ok (by rw [← rd.length]; exact hl) hm hp)⟩
/-! ### facts of a class's parts, as the head finds them -/
def MthF (K : PySem.W.Frag) (mg : Str → Option Value) (c m qual : Str) (st : Stmt) (ps : List Str) : Prop := ∃ C f fd, mg c = some (.ref C) ∧ Cls K C ∧ Meth K C m f ∧ Fun K m qual st f fd ∧ Binds K fd ps []
def PrpF (K : PySem.W.Frag) (mg : Str → Option Value) (c m qual : Str) (st : Stmt) (ps : List Str) : Prop := ∃ C p f fd, mg c = some (.ref C) ∧ Cls K C ∧ PropOf K C m p f ∧ Fun K m qual st f fd ∧ Binds K fd ps []
def CloF (K : PySem.W.Frag) (mg : Str → Option Value) (c qual : Str) (st : Stmt) (ps : List Str) : Prop := ∃ C f fd, mg c = some (.ref C) ∧ StX.CallO K C f ∧ Fun K "__call__" qual st f fd ∧ Binds K fd ps []
def OpF (K : PySem.W.Frag) (mg : Str → Option Value) (c dn qual : Str) (st : Stmt) (ps : List Str) : Prop := ∃ C f fd, mg c = some (.ref C) ∧ PySem.W.selfFirst K C = true ∧ PySem.W.findIn K (.ref C) dn = some (some (.ref f)) ∧ PySem.W.isFn K (.ref f) = true ∧ Fun K dn qual st f fd ∧ Binds K fd ps []
def StaF (K : PySem.W.Frag) (mg : Str → Option Value) (c m qual : Str) (st : Stmt) (ps : List Str) : Prop := ∃ C p f mc fd, mg c = some (.ref C) ∧ ClX.CRead K C mc ∧ SMet K C mc m p f ∧ Fun K m qual st f fd ∧ Binds K fd ps []
def IniF (K : PySem.W.Frag) (mg : Str → Option Value) (c qual : Str) (st : Stmt) : Prop := ∃ C f fd, mg c = some (.ref C) ∧ Mk K C f ∧ Fun K "__init__" qual st f fd
def IniB (K : PySem.W.Frag) (mg : Str → Option Value) (c qual : Str) (st : Stmt) (ps : List Str) : Prop := ∃ C f fd, mg c = some (.ref C) ∧ Mk K C f ∧ Fun K "__init__" qual st f fd ∧ Binds K fd ps []
def FldF (K : PySem.W.Frag) (mg : Str → Option Value) (c f : Str) : Prop := ∃ C, mg c = some (.ref C) ∧ Cls K C ∧ NoAttr K C f
def SupM (P : Program) (K : PySem.W.Frag) (mg : Str → Option Value) (c m qual : Str) (st : Stmt) (ps : List Str) (m2 qual2 : Str) (st2 : Stmt) (ps2 : List Str) : Prop := ∃ C DD f f2 fd fd2 NFF, mg c = some (.ref C) ∧ Cls K C ∧ Meth K C m f ∧ FunS P K m qual st f DD fd NFF ∧ Binds K fd ps [] ∧
  PySem.W.mroIn K C (.ref DD) = some true ∧ PySem.W.ks_superIn K C DD m2 = some (some (.ref f2)) ∧ PySem.W.typeIn K (.ref f2) = some (.type "function") ∧ PySem.W.fnIn K f2 = true ∧ Fun K m2 qual2 st2 f2 fd2 ∧ Binds K fd2 ps2 [] ∧ (∃ cdD, PySem.W.clsIn K DD = some cdD) ∧ PySem.W.nsIn K cStatics "thirdparty.any" = some none ∧ mg "super" = none ∧ (P.main.scope.names.lookup ("super" : Str)).isSome = false
theorem fldK {tb : List (Addr × Str)} {c f : Str} (h : FldF K mg c f) : FldK K (clsOf mg tb) c f := let ⟨C, h1, h2, h3⟩ := h; ⟨C, clsOf_eq h1, h2, h3⟩
end
/-! ### one of several classes -/
def eAlt (f h : EM) : EM := fun S w => match f S w with
  | .bad => h S w
  | r => r
theorem DE.alt {X : Cx} {g : G} {E : EK} {e : Expr} {f h : EM} (a : DE X g E e f) (b : DE X g E e h) : DE X g E e (eAlt f h) := by
  obtain ⟨t, p, r⟩ := a.run
  obtain ⟨t2, p2, r2⟩ := b.run
  refine ⟨fun σ H Q => t σ H Q ∨ t2 σ H Q, ⟨fun pins s σ H Q I q => ?_⟩, fun σ H Q F S w R q => ?_⟩
  · rcases q with q | q
    · exact p.run pins s σ H Q I q
    · exact p2.run pins s σ H Q I q
  · unfold eAlt at q
    cases z : f S w with
    | bad => rw [z] at q; exact .inr (r2 σ H Q F S w R q)
    | ok d w1 => rw [z] at q; exact .inl (r σ H Q F S w R (by rw [z]; exact q))
    | err c fs w1 => rw [z] at q; exact .inl (r σ H Q F S w R (by rw [z]; exact q))
end Y
namespace Y
open PySem PySem.Spec PyProof.Rows L2
/-! ### a list or a tuple unpacked -/
def gSeqM (k : GMs) : GM := fun d S => match d with
  | .tup ds => k ds S
  | .lst ds => k ds S
  | _ => none
section
variable {X : Cx} {g : G} {pos : Pos}
theorem dg_seq {tgs : List Expr} {kk : Nat} {ns : List Nat} {k : GMs} {n : Nat} (hK : g.K = X.K) (h : DGs X g tgs ns k) (hq : ∀ u : TGs, PGs X tgs u → PG X (.Tuple tgs kk pos) (gTup X.K n u)) (hq2 : ∀ u : TGs, PGs X tgs u → PG X (.Tuple tgs kk pos) (gUnl X.K n u)) (hn : ∀ ds S S', k ds S = some S' → ds.length = n) : DG X g (.Tuple tgs kk pos) ns (gSeqM k) := by
  obtain ⟨t, p, r⟩ := h.run
  refine ⟨⟨fun v σ H Q => gTup X.K n t v σ H Q ∨ gUnl X.K n t v σ H Q, ⟨fun pins s σ H v u Q I rv hw => ?_⟩, fun v σ H Q F S w d S' R rd hm q => ?_⟩, fun d S S' i ds hm hj => ?_⟩
  · rcases hw with hw | hw
    · exact (hq t p).run pins s σ H v u Q I rv hw
    · exact (hq2 t p).run pins s σ H v u Q I rv hw
  · rw [← hK]
    cases rd with
    | tup hs rs => exact .inl ⟨_, _, rfl, same_T R.sub hs, by rw [rs.length]; exact hn _ _ _ hm, r _ σ H _ F S w _ S' R rs hm q⟩
    | lst hs rs => exact .inr ⟨_, _, rfl, .inl (.inl (R.sub _ _ hs)), by rw [rs.length]; exact hn _ _ _ hm, r _ σ H _ F S w _ S' R rs hm q⟩
    | _ => cases hm
  · cases d with
    | tup es => exact h.own es S S' i ds hm hj
    | lst es => exact h.own es S S' i ds hm hj
    | _ => cases hm
end
end Y
namespace Y
open PySem PySem.Spec PyProof.Rows L2
section
variable {X : Cx} {g : G} {E : EK} {e a b o : Expr} {es : List Expr} {pos p p2 apos : Pos} {fs : AM} {f fa fb fo : EM} {x c m : Str} {k n : Nat} {mm : List D → Bx → R D}
/-! ### isinstance of an own class -/
structure IsCK (K : PySem.W.Frag) (mg : Str → Option Value) (cls : CT) (c : Str) : Prop where
  ex : ∃ C : Addr, mg c = some (.ref C) ∧ cls c = some C ∧ C8.InsC K C
def mIsC (c : Str) : D → Option D := fun d => if isCls c d then some (.bl true) else none
theorem de_isC {p3 : Pos} (hK : g.K = X.K) (M : IsCK X.K X.mg g.cls c) (hm : X.mg "isinstance" = none) (ha : DE X g E e f) (hgN : Gl X c := by rfl) (hg : Gl X "isinstance" := by rfl) (hdN : (c == ("__debug__" : Str)) = false := by decide)
    (he : starEach [e, .Name c p3] X.env = (false, eval e X.env) :: starEach [.Name c p3] X.env := by rfl) (he2 : starEach [.Name c p3] X.env = (false, eval (.Name c p3) X.env) :: starEach [] X.env := by rfl) (hpl : (backTo pos (starEach [.Name c p3] X.env)).any (·.1) = false := by rfl) :
    DE X g E (.Call (.Name "isinstance" p) [e, .Name c p3] [] pos) (e1 (mIsC c) f) := by
  obtain ⟨C, h1, h2, h3⟩ := M.ex
  obtain ⟨ta, pa, ra⟩ := ha.run
  refine ⟨_, pe_callB (C8.call_isC h3) hg hm (by decide +kernel) (pa_cons pa (pa_cons (pe_glob hgN h1 (v := .ref C) rfl hdN) pa_nil he2) he) (by decide) (by decide) he hpl, fun σ H Q F S w R h => ?_⟩
  refine ra σ H _ F S w R (PostG.imp (PostG.bind h) fun d w1 _ h1 v H1 F1 x1 r1 => ?_)
  obtain ⟨z, hz, q⟩ := post_ofO h1
  unfold mIsC at hz
  by_cases hd : isCls c d = true
  · rw [if_pos hd] at hz
    cases hz
    obtain ⟨q1, C', dx, vs, ev, hc', hq⟩ := r1.isCls hd
    obtain rfl : C' = C := Option.some.inj (hc'.symm.trans h2)
    subst ev
    exact ⟨q1, dx, vs, rfl, x1.sub _ _ hq, q _ H1 F1 x1 (.bl _)⟩
  · rw [if_neg hd] at hz; cases hz
/-! ### == by an own __eq__ -/
theorem op_ownEq {E : XK} {C f : Addr} {sp : Sp} (F : FnR X.prog X.w X.K X.mg X.base (L2.CX X.prog X.w) k f sp) (hr : Room k X.A) (hx : Passes (L2.CX X.prog X.w) X E) (hs : PySem.W.findIn X.K (.ref C) "__eq__" = some (some (.ref f))) (hf : PySem.W.isFn X.K (.ref f) = true) :
    OpR X (compareOp .Eq) (rOwn C sp E) := by
  intro pins s σ H x y u v Q I rx ry h
  obtain ⟨a, b, dx, dy, fs, gs, rfl, rfl, ha, hb, q⟩ := h
  cases rx
  cases ry
  obtain ⟨mA, J, _⟩ := ins_get I.hok ha
  obtain ⟨mB, J', _⟩ := ins_get I.hok hb
  obtain ⟨od, J, _⟩ := J.look
  obtain ⟨od', J', _⟩ := J'.look
  obtain ⟨m, hF⟩ := I.fr
  show wpAny (model X.prog X.w) X.A (richCompare .Eq (.ref a) (.ref b)) (EP X pins σ Q) X.xe s
  refine PySem.W.cmp_K (op := .Eq) (tb := .ref C) hr.units0 hF I.ok.mod.kin J J'.type (by simp [PySem.W.notFirst]) hs hf ?_
  refine wpAny_mono (wpAny_call (run_fnR (vs := [V.ref a, V.ref b]) F hr hx I (.cons rfl (.cons rfl .nil)) q)) (fun r s' hq => ?_) fun _ _ z => z
  obtain ⟨z, H', I', rz, qz⟩ := hq
  have key : EP X pins σ Q r s' := ⟨z, H', I', rz, qz⟩
  cases r with
  | notImplemented => cases z <;> first | (obtain ⟨t, e⟩ := rz; cases e) | cases rz
  | _ => exact key
theorem own_run {E : XK} {C : Addr} (hK : g.K = X.K) {ta tb : TE} {f : Addr} (hc : g.cls c = some C) (ra : ∀ σ H Q F S w, Rel g F w S σ H → Post g F H Q E (fa S w) → ta σ H Q) (rb : ∀ σ H Q F S w, Rel g F w S σ H → Post g F H Q E (fb S w) → tb σ H Q) :
    ∀ σ H Q F S w, Rel g F w S σ H → Post g F H Q E (eOwn c mm fa fb S w) → ta σ H fun x H1 => tb σ H1 fun y H2 => rOwn C (spM X.K g.cls 2 mm) E x y H2 Q := by
  intro σ H Q F S w R h
  refine ra σ H _ F S w R (PostG.imp (PostG.bind h) fun d w1 hd h1 v H1 F1 x1 r1 => ?_)
  refine rb σ H1 _ F1 S w1 (R.ext x1) (PostG.ext x1 (PostG.bind h1) fun e w2 h2 u H2 F2 x2 r2 => ?_)
  have x12 := x1.trans x2
  by_cases hd : (isCls c d && isCls c e) = true
  · rw [if_pos hd] at h2
    rw [Bool.and_eq_true] at hd
    have r1' := r1.mono x2.ff
    obtain ⟨q, C', dx, vs, ev, hc', hq⟩ := r1'.isCls hd.1
    obtain rfl : C' = C := Option.some.inj (hc'.symm.trans hc)
    obtain ⟨q2, C2, dx2, vs2, ev2, hc2, hq2⟩ := r2.isCls hd.2
    obtain rfl : C2 = C' := Option.some.inj (hc2.symm.trans hc)
    refine ⟨q, q2, dx, dx2, vs, vs2, ev, ev2, x2.sub _ _ hq, x2.sub _ _ hq2, ?_⟩
    rw [← hK]
    exact ⟨rfl, g.bq, F2, [d, e], w2, x2.sub, x2.bx, .cons r1' (.cons r2 .nil), Post.of x12 h2⟩
  · rw [if_neg hd] at h2; exact h2.elim
theorem de_ownEq {E : XK} (hK : g.K = X.K) (M : OpK X.prog X.w X.K X.mg X.base g.cls c "__eq__" k mm) (hr : Room k X.A) (hx : Passes (L2.CX X.prog X.w) X E) (ha : DE X g (kE E) a fa) (hb : DE X g (kE E) b fb) (hk : behindInMarks .Eq b = false := by first | exact nomark _ | rfl) : DE X g (kE E) (.Compare a [.Eq] [b] pos) (eOwn c mm fa fb) := by
  obtain ⟨C, f, fd, ps, hc, sf, fi, hf, F, bi⟩ := M.ex
  obtain ⟨ta, pa, ra⟩ := ha.run
  obtain ⟨tb, pb, rb⟩ := hb.run
  exact ⟨_, pe_cmpR (op_ownEq (raw_spM (g := g) F bi) hr hx fi hf) pa pb hk, own_run hK (f := f) hc ra rb⟩
end
theorem kit_self {K : PySem.W.Frag} {C : Addr} : PySem.W.kitOne K (.ref C) (.ref C) = some true := by unfold PySem.W.kitOne; rw [if_pos (by simp)]
def IscF (K : PySem.W.Frag) (mg : Str → Option Value) (c : Str) : Prop := ∃ C : Addr, mg c = some (.ref C) ∧ C8.InsC K C
theorem iscK {tb : List (Addr × Str)} {K : PySem.W.Frag} {mg : Str → Option Value} {c : Str} (h : IscF K mg c) : IsCK K mg (clsOf mg tb) c := let ⟨C, h1, h2⟩ := h; ⟨C, h1, clsOf_eq h1, h2⟩
end Y
namespace Y
open PySem PySem.Spec PyProof.Rows L2
section
variable {X : Cx} {g : G} {E : EK} {e a b o : Expr} {es : List Expr} {pos p p2 apos p1 p3 : Pos} {fs : AM} {f fa fb fo : EM} {x c m : Str} {k n : Nat} {mm : List D → Bx → R D} {te : TE}
/-! ### a list turned round -/
theorem drs_app {F : FH} : ∀ {vs us : List V} {ds es : List D}, DRs g F vs ds → DRs g F us es → DRs g F (vs ++ us) (ds ++ es)
  | [], us, [], es, .nil, h => h
  | v :: vs, us, d :: ds, es, .cons h t, h2 => .cons h (drs_app t h2)
theorem drs_rev {F : FH} : ∀ {vs : List V} {ds : List D}, DRs g F vs ds → DRs g F vs.reverse ds.reverse
  | [], [], .nil => .nil
  | v :: vs, d :: ds, .cons h t => by
    rw [List.reverse_cons, List.reverse_cons]
    exact drs_app (drs_rev t) (.cons h .nil)
def tRevL (K : PySem.W.Frag) (te : TE) : TE := fun σ H Q => te σ H fun x H1 => ∃ a xs, x = .ref a ∧ SqL K H1 a xs ∧ ∀ p, H1 p = none → Q (.ref p) (upd H1 p (.lst xs.reverse))
def mRevL : D → Option D
  | .lst ds => some (.lst ds.reverse)
  | _ => none
theorem pe_revL (he : PE X e te) : PE X (.Subscript e (.Slice none none (some (.UnaryOp .USub (.Constant (.int 1) k p1) p2)) p3) pos) (tRevL X.K te) := by
  refine ⟨fun pins s σ H Q I h => ?_⟩
  refine Subscript_ (thn (he.run pins s σ H _ I h) fun v s1 ⟨x, H1, I1, r1, q1⟩ => ?_)
  obtain ⟨a, xs, ex, hx, q⟩ := q1
  subst ex
  obtain rfl : v = Value.ref a := r1
  have hst : PO X (some (.UnaryOp .USub (.Constant (.int 1) k p1) p2)) (tPart (tUn (rU fun i => .int (-i)) (tC (.int 1)))) := po_some (pe_un un_neg pe_int)
  refine wpAny_Slice (thn (po_none.run pins s1 σ H1 (fun o H2 => o = none ∧ H2 = H1) I1 ⟨rfl, rfl⟩) fun vl s2 ⟨l, H2, I2, pl, el, e2⟩ => ?_)
  subst el e2
  refine thn (po_none.run pins s2 σ H2 (fun o H3 => o = none ∧ H3 = H2) I2 ⟨rfl, rfl⟩) fun vu s3 ⟨u, H3, I3, pu, eu, e3⟩ => ?_
  subst eu e3
  refine thn (hst.run pins s3 σ H3 (fun o H4 => o = some (-1) ∧ H4 = H3) I3 ⟨1, rfl, -1, rfl, rfl, rfl⟩) fun vs s4 ⟨o, H4, I4, ps, eo, e4⟩ => ?_
  subst eo e4
  have I5 : Inv X pins σ H4 { s4 with heap := s4.heap.push { cls := .type "slice", data := .fields #[vl, vu, vs] } } := I4.kept (t' := s4.toks) fun b ob q => Heap.get?_push_of_some _ q
  show wpAny (model X.prog X.w) X.A (subscriptTail e (.Slice none none (some (.UnaryOp .USub (.Constant (.int 1) k p1) p2)) p3) (.ref a) (.ref s4.heap.objs.size)) (EP X pins σ Q) X.xe { s4 with heap := s4.heap.push { cls := .type "slice", data := .fields #[vl, vu, vs] } }
  obtain ⟨its, r, ht, hz⟩ := I5.list hx
  have hlen := r.length
  refine tail_any (ops := [.ref a, .ref s4.heap.objs.size]) ht.isList.typeIs (slot_list_getitem.lookup) ?_ (by with_unfolding_all rfl)
  refine wpAny_getItem_list_slice ht.isList (Heap.IsSliceOf.new ..) pl pu ps (by decide) ?_ (by rw [List.size_toArray] <;> omega)
  rw [PySem.W.krv_pick]
  refine ⟨.ref _, _, I5.laid (t' := s4.toks) (o := .lst xs.reverse) (fun b ob q => Heap.get?_push_of_some _ q) (Nat.le_refl _) ?_, rfl, q _ (I5.hok.fresh (Nat.le_refl _))⟩
  exact ⟨by rw [List.length_reverse]; exact hz, _, 0, r.reverse, Heap.get?_push_size _ rfl⟩
theorem de_revL (hK : g.K = X.K) (he : DE X g E e f) : DE X g E (.Subscript e (.Slice none none (some (.UnaryOp .USub (.Constant (.int 1) k p1) p2)) p3) pos) (e1 mRevL f) := by
  obtain ⟨t, p, r⟩ := he.run
  refine ⟨_, pe_revL p, fun σ H Q F S w R h => ?_⟩
  refine r σ H _ F S w R (PostG.imp (PostG.bind h) fun d w1 hd h1 v H1 F1 x1 r1 => ?_)
  clear hd
  obtain ⟨z, hz, q⟩ := post_ofO h1
  unfold mRevL at hz
  split at hz
  · rename_i ds
    cases hz
    cases r1 with
    | lst ha hr => exact ⟨_, _, rfl, SqL.of (x1.sub _ _ ha), lay_l x1.sub x1.bx (drs_rev hr) fun v H' F' x r => q v H' F' (x1.trans x) r⟩
  · cases hz
/-! ### own unary minus -/
def rOwn1 (C : Addr) (sp : Sp) (E : XK) : V → Hp → VK → Prop := fun x H Q => ∃ a dx fs, x = .ref a ∧ H a = some (.ins C dx fs) ∧ sp [x] H Q E
theorem un_own {E : XK} {C f : Addr} {sp : Sp} (F : FnR X.prog X.w X.K X.mg X.base (L2.CX X.prog X.w) k f sp) (hr : Room k X.A) (hx : Passes (L2.CX X.prog X.w) X E) (hs : PySem.W.findIn X.K (.ref C) "__neg__" = some (some (.ref f))) (hf : PySem.W.isFn X.K (.ref f) = true) :
    UnR X (unaryOp .USub) (rOwn1 C sp E) := by
  intro pins s σ H x u Q I rx h
  obtain ⟨a, dx, fs, rfl, ha, q⟩ := h
  cases rx
  obtain ⟨mA, J, _⟩ := ins_get I.hok ha
  obtain ⟨od, J, _⟩ := J.look
  obtain ⟨m, hF⟩ := I.fr
  exact PySem.W.ksp_neg hF I.ok.mod.kin J hs hf (wpAny_call (run_fnR (vs := [V.ref a]) F hr hx I (.cons rfl .nil) q))
def eNegO (c : Str) (mm : List D → Bx → R D) (fa : EM) : EM := fun S w => (fa S w).bind fun d w1 => if isCls c d then mm [d] w1 else .bad
theorem de_negO {E : XK} (hK : g.K = X.K) (M : MthK X.prog X.w X.K X.mg X.base g.cls c "__neg__" k 1 mm) (hr : Room k X.A) (hx : Passes (L2.CX X.prog X.w) X E) (ha : DE X g (kE E) a fa) : DE X g (kE E) (.UnaryOp .USub a pos) (eNegO c mm fa) := by
  obtain ⟨C, f, fd, ps, hc, _, me, F, bi⟩ := M.ex
  obtain ⟨ta, pa, ra⟩ := ha.run
  refine ⟨_, pe_un (un_own (raw_spM (g := g) F bi) hr hx me.at_ me.fn) pa, fun σ H Q F S w R h => ?_⟩
  refine ra σ H _ F S w R (PostG.imp (PostG.bind h) fun d w1 hd h1 v H1 F1 x1 r1 => ?_)
  by_cases hd : isCls c d = true
  · rw [if_pos hd] at h1
    obtain ⟨q, C', dx, vs, ev, hc', hq⟩ := r1.isCls hd
    obtain rfl : C' = C := Option.some.inj (hc'.symm.trans hc)
    refine ⟨q, dx, vs, ev, x1.sub _ _ hq, ?_⟩
    rw [← hK]
    exact ⟨rfl, g.bq, F1, [d], w1, x1.sub, x1.bx, .cons r1 .nil, Post.of x1 h1⟩
  · rw [if_neg hd] at h1; exact h1.elim
end
end Y
namespace Y
open PySem PySem.Spec PyProof.Rows L2
/-! ### != by an own __eq__ -/
section
variable {M : Model} {prog : Program} {w : World} {A : Around} {E : Value → Shared → Prop} {s : Shared} {K : PySem.W.Frag} {x C f : Addr} {b : Value} {ox : Obj} {od : Option Obj}
theorem entry_neO {Q : Fin → Shared → Prop} (hu : A.units < cLine) (X : K.In s.heap) (I : PySem.W.InstAt s.heap x ox C od) (hs : PySem.W.findIn K (.ref C) "__eq__" = some (some (.ref f))) (hf : PySem.W.isFn K (.ref f) = true)
    (h : wpAny (model prog w) A (call (.ref f) [.ref x, b]) (fun v s' => ∃ r, v = .bool r ∧ Q (.done (.ret (.bool !r))) s') E s) : wpAny (model prog w) A (Builtin.«object.__ne__» ⟨[.ref x, b], []⟩) Q E s := by
  unfold Builtin.«object.__ne__»
  repeat (first | with_reducible refine wpAny_cRoomFor hu ?_ | with_reducible refine PySem.W.ifBound_K X I hs hf (wpAny_mono h (fun v s' hv => ?_) fun _ _ z => z) | wp_step)
  obtain ⟨r, rfl, q⟩ := hv
  repeat (first | with_reducible refine wpAny_truthy_bool ?_ | wp_step)
  exact q
theorem call_neO {Q : Value → Shared → Prop} (hu : A.in1.units < cLine) (X : K.In s.heap) (I : PySem.W.InstAt s.heap x ox C od) (hm : PySem.W.mroIn K C (.type "object") = some true) (hs : PySem.W.findIn K (.ref C) "__eq__" = some (some (.ref f))) (hf : PySem.W.isFn K (.ref f) = true)
    (h : wpAny (model prog w) A.in1 (call (.ref f) [.ref x, b]) (fun v s' => ∃ r, v = .bool r ∧ Q (.bool !r) s') E s) : wpAny (model prog w) A (call (.builtin "object.__ne__") [.ref x, b]) Q E s :=
  wpAny_call (codeAny_call_builtin F.cmp_object.ne.plain F.cmpEntry_ne (PySem.W.check_slot F.cmpKind_ne F.cmpSplit_ne (I.type.andThen (PySem.W.looks_mroIn X hm)) (F.cmpArgs_ne _ _) (entry_neO hu X I hs hf (wpAny_mono h (fun v s' ⟨r, e, q⟩ => ⟨r, e, q⟩) fun _ _ z => z))))
theorem cmp_neO {Q : Value → Shared → Prop} {tb : Value} (hu : A.units < cLine) (hu1 : A.in1.units < cLine) (X : K.In s.heap) (I : PySem.W.InstAt s.heap x ox C od) (hb : PySem.W.Looks (model prog w) s.heap (typeOf b) (.ref C)) (hm : PySem.W.mroIn K C (.type "object") = some true)
    (hn : PySem.W.findIn K (.ref C) "__ne__" = some (some (.builtin "object.__ne__"))) (hs : PySem.W.findIn K (.ref C) "__eq__" = some (some (.ref f))) (hf : PySem.W.isFn K (.ref f) = true)
    (h : wpAny (model prog w) A.in1 (call (.ref f) [.ref x, b]) (fun v s' => ∃ r, v = .bool r ∧ Q (.bool !r) s') E s) : wpAny (model prog w) A (richCompare .NotEq (.ref x) b) Q E s := by
  have bound : ∀ {Q' : Option Value → Shared → Prop}, wpAny (model prog w) A (call (.builtin "object.__ne__") [.ref x, b]) (fun v => Q' (some v)) E s → wpAny (model prog w) A (callSpecialIfBound? (.ref x) "__ne__" [b]) Q' E s := fun {Q'} h => by
    simp only [callSpecialIfBound?, bindSpecialIfBound?]
    refine wpAny_holding (wpAny_bind (wpAny_bind (wpAny_bind (I.type.here ((PySem.W.looks_findIn X hn).here ?_)))))
    refine wpAny_bind (wpAny_askSetting (wpAny_ite ?_))
    have fin : wpAny (model prog w) A (call (.builtin "object.__ne__") ([.ref x] ++ [b]) >>= fun v => pure (some v)) Q' E s := wpAny_bind (wpAny_mono h (fun v s' h' => wpAny_pure h') fun _ _ h' => h')
    split
    · exact wpAny_bind (wpAny_of_eq (F.cmp_object.ne.bind _) (wpAny_pure (by exact fin)))
    · exact wpAny_tryCatch (wpAny_bind (wpAny_of_eq (F.cmp_object.ne.bind _) (wpAny_pure (by exact fin))))
  have one : wpAny (model prog w) A (tryCompare (.ref x) "__ne__" b) (fun r s' => ∃ v, r = some v ∧ Q v s') E s := by
    unfold tryCompare
    refine wpAny_bind (bound (call_neO hu1 X I hm hs hf (wpAny_mono h (fun v s' ⟨r, e, q⟩ => ⟨r, e, ?_⟩) fun _ _ z => z)))
    exact wpAny_pure ⟨_, rfl, q⟩
  unfold richCompare
  simp only [oneThing_ref]
  refine wpAny_holding (wpAny_bind (wpAny_cRoomFor hu ?_))
  refine wpAny_bind (I.type.here (wpAny_bind (hb.here ?_)))
  rw [if_neg (by simp)]
  refine wpAny_bind (wpAny_pure ?_)
  simp only [Bool.false_eq_true, if_false]
  refine wpAny_bind (wpAny_mono one (fun r s' z => ?_) fun _ _ e => e)
  obtain ⟨v, rfl, hq⟩ := z
  exact wpAny_pure hq
end
section
variable {X : Cx} {g : G} {E : EK} {e a b o : Expr} {pos p p2 : Pos} {f fa fb fo : EM} {x c m : Str} {k n : Nat} {mm : List D → Bx → R D}
def rOwnN (C : Addr) (sp : Sp) (E : XK) : R2 := fun x y H Q => ∃ a b dx dy fs gs, x = .ref a ∧ y = .ref b ∧ H a = some (.ins C dx fs) ∧ H b = some (.ins C dy gs) ∧ sp [x, y] H (fun v H' => ∃ r, v = .bl r ∧ Q (.bl !r) H') E
theorem op_ownNe {E : XK} {C f : Addr} {sp : Sp} (F : FnR X.prog X.w X.K X.mg X.base (L2.CX X.prog X.w) k f sp) (hr : Room (k + 1) X.A) (hx : Passes (L2.CX X.prog X.w) X E) (hm : PySem.W.mroIn X.K C (.type "object") = some true) (hn : PySem.W.findIn X.K (.ref C) "__ne__" = some (some (.builtin "object.__ne__"))) (hs : PySem.W.findIn X.K (.ref C) "__eq__" = some (some (.ref f))) (hf : PySem.W.isFn X.K (.ref f) = true) :
    OpR X (compareOp .NotEq) (rOwnN C sp E) := by
  intro pins s σ H x y u v Q I rx ry h
  obtain ⟨a, b, dx, dy, fs, gs, rfl, rfl, ha, hb, q⟩ := h
  cases rx
  cases ry
  obtain ⟨mA, J, _⟩ := ins_get I.hok ha
  obtain ⟨mB, J', _⟩ := ins_get I.hok hb
  obtain ⟨od, J, _⟩ := J.look
  obtain ⟨od', J', _⟩ := J'.look
  show wpAny (model X.prog X.w) X.A (richCompare .NotEq (.ref a) (.ref b)) (EP X pins σ Q) X.xe s
  refine cmp_neO (tb := .ref C) hr.units0 hr.in1.units0 I.kIn J J'.type hm hn hs hf ?_
  have e0 : Env0 X.prog X.w X.K X.mg X.base X.A.in1 X.stack s H := by
    have e := I.env0
    exact ⟨e.frames, e.mod, e.bs, e.bsz, e.funs, e.frf, e.hok, e.bare⟩
  refine wpAny_call (codeAny_mono (F X.A.in1 X.stack s H [.ref a, .ref b] [.ref a, .ref b] _ E hr.in1 e0 (.cons rfl (.cons rfl .nil)) q) fun r s' hq => ?_)
  cases r with
  | error e => exact hx pins σ H s e s' I hq
  | ok fl =>
    cases fl with
    | ret u =>
      obtain ⟨z, H', I', rz, r, ez, qz⟩ := I.after hq
      subst ez
      cases rz
      exact ⟨r, rfl, .bl !r, H', I', rfl, qz⟩
    | next => exact False.elim hq
    | brk => exact False.elim hq
    | cont => exact False.elim hq
def negR : R D → R D
  | .ok (.bl b) w => .ok (.bl !b) w
  | _ => .bad
structure NeK (P : Program) (w : World) (K : PySem.W.Frag) (mg : Str → Option Value) (base : Heap) (cls : CT) (c : Str) (k : Nat) (mm : List D → Bx → R D) : Prop where
  ex : ∃ (C f : Addr) (fd : FuncData) (ps : List Str), cls c = some C ∧ PySem.W.mroIn K C (.type "object") = some true ∧ PySem.W.findIn K (.ref C) "__ne__" = some (some (.builtin "object.__ne__")) ∧ PySem.W.findIn K (.ref C) "__eq__" = some (some (.ref f)) ∧ PySem.W.isFn K (.ref f) = true ∧ FnOk P w K mg base (L2.CX P w) k f fd ps (spM K cls 2 mm) ∧ Binds K fd ps []
def eOwnN (c : Str) (mm : List D → Bx → R D) (fa fb : EM) : EM := fun S w => (fa S w).bind fun d w1 => (fb S w1).bind fun e w2 => if isCls c d && isCls c e then negR (mm [d, e] w2) else .bad
theorem ownN_run {E : XK} {C : Addr} (hK : g.K = X.K) {ta tb : TE} (hc : g.cls c = some C) (ra : ∀ σ H Q F S w, Rel g F w S σ H → Post g F H Q E (fa S w) → ta σ H Q) (rb : ∀ σ H Q F S w, Rel g F w S σ H → Post g F H Q E (fb S w) → tb σ H Q) :
    ∀ σ H Q F S w, Rel g F w S σ H → Post g F H Q E (eOwnN c mm fa fb S w) → ta σ H fun x H1 => tb σ H1 fun y H2 => rOwnN C (spM X.K g.cls 2 mm) E x y H2 Q := by
  intro σ H Q F S w R h
  refine ra σ H _ F S w R (PostG.imp (PostG.bind h) fun d w1 hd h1 v H1 F1 x1 r1 => ?_)
  refine rb σ H1 _ F1 S w1 (R.ext x1) (PostG.ext x1 (PostG.bind h1) fun e w2 h2 u H2 F2 x2 r2 => ?_)
  have x12 := x1.trans x2
  by_cases hd : (isCls c d && isCls c e) = true
  · rw [if_pos hd] at h2
    rw [Bool.and_eq_true] at hd
    have r1' := r1.mono x2.ff
    obtain ⟨q, C', dx, vs, ev, hc', hq⟩ := r1'.isCls hd.1
    obtain rfl : C' = C := Option.some.inj (hc'.symm.trans hc)
    obtain ⟨q2, C2, dx2, vs2, ev2, hc2, hq2⟩ := r2.isCls hd.2
    obtain rfl : C2 = C' := Option.some.inj (hc2.symm.trans hc)
    refine ⟨q, q2, dx, dx2, vs, vs2, ev, ev2, x2.sub _ _ hq, x2.sub _ _ hq2, ?_⟩
    rw [← hK]
    refine ⟨rfl, g.bq, F2, [d, e], w2, x2.sub, x2.bx, .cons r1' (.cons r2 .nil), ?_⟩
    cases hmm : mm [d, e] w2 with
    | ok z w3 =>
      rw [hmm] at h2
      cases z with
      | bl t =>
        intro v H' F' x r
        cases r
        exact ⟨t, rfl, h2 (.bl !t) H' F' (x12.trans x) (.bl _)⟩
      | _ => exact h2.elim
    | _ => rw [hmm] at h2; exact h2.elim
  · rw [if_neg hd] at h2; exact h2.elim
theorem de_ownNe {E : XK} (hK : g.K = X.K) (M : NeK X.prog X.w X.K X.mg X.base g.cls c k mm) (hr : Room (k + 1) X.A) (hx : Passes (L2.CX X.prog X.w) X E) (ha : DE X g (kE E) a fa) (hb : DE X g (kE E) b fb) (hk : behindInMarks .NotEq b = false := by first | exact nomark _ | rfl) : DE X g (kE E) (.Compare a [.NotEq] [b] pos) (eOwnN c mm fa fb) := by
  obtain ⟨C, f, fd, ps, hc, hmo, hne, fi, hf, F, bi⟩ := M.ex
  obtain ⟨ta, pa, ra⟩ := ha.run
  obtain ⟨tb, pb, rb⟩ := hb.run
  exact ⟨_, pe_cmpR (op_ownNe (raw_spM (g := g) F bi) hr hx hmo hne fi hf) pa pb hk, ownN_run hK hc ra rb⟩
theorem dt_ownNe {E : XK} (hK : g.K = X.K) (M : NeK X.prog X.w X.K X.mg X.base g.cls c k mm) (hr : Room (k + 1) X.A) (hx : Passes (L2.CX X.prog X.w) X E) (ha : DE X g (kE E) a fa) (hb : DE X g (kE E) b fb) (hk : behindInMarks .NotEq b = false := by first | exact nomark _ | rfl) : DT X g (kE E) (.Compare a [.NotEq] [b] pos) (tOf (eOwnN c mm fa fb)) := by
  obtain ⟨C, f, fd, ps, hc, hmo, hne, fi, hf, F, bi⟩ := M.ex
  obtain ⟨ta, pa, ra⟩ := ha.run
  obtain ⟨tb, pb, rb⟩ := hb.run
  exact ⟨_, pt_cmpR (op_ownNe (raw_spM (g := g) F bi) hr hx hmo hne fi hf) pa pb hk, dt_of (ownN_run hK hc ra rb)⟩
theorem dt_ownEq {E : XK} (hK : g.K = X.K) (M : OpK X.prog X.w X.K X.mg X.base g.cls c "__eq__" k mm) (hr : Room k X.A) (hx : Passes (L2.CX X.prog X.w) X E) (ha : DE X g (kE E) a fa) (hb : DE X g (kE E) b fb) (hk : behindInMarks .Eq b = false := by first | exact nomark _ | rfl) : DT X g (kE E) (.Compare a [.Eq] [b] pos) (tOf (eOwn c mm fa fb)) := by
  obtain ⟨C, f, fd, ps, hc, sf, fi, hf, F, bi⟩ := M.ex
  obtain ⟨ta, pa, ra⟩ := ha.run
  obtain ⟨tb, pb, rb⟩ := hb.run
  exact ⟨_, pt_cmpR (op_ownEq (raw_spM (g := g) F bi) hr hx fi hf) pa pb hk, dt_of (own_run hK (f := f) hc ra rb)⟩
end
def NeF (K : PySem.W.Frag) (mg : Str → Option Value) (c qual : Str) (st : Stmt) (ps : List Str) : Prop := ∃ C f fd, mg c = some (.ref C) ∧ PySem.W.mroIn K C (.type "object") = some true ∧ PySem.W.findIn K (.ref C) "__ne__" = some (some (.builtin "object.__ne__")) ∧ PySem.W.findIn K (.ref C) "__eq__" = some (some (.ref f)) ∧ PySem.W.isFn K (.ref f) = true ∧ Fun K "__eq__" qual st f fd ∧ Binds K fd ps []
end Y
namespace Y
open PySem PySem.Spec PyProof.Rows L2
/-! ### sum, max, min -/
def intsOf : List D → Option (List Int)
  | [] => some []
  | .int b :: ds => (intsOf ds).map (b :: ·)
  | _ => none
section
variable {X : Cx} {g : G} {E : EK} {e : Expr} {es : List Expr} {pos p : Pos} {fs : AM}
theorem ints_of {F : FH} : ∀ {vs : List V} {ds : List D} {bs : List Int}, DRs g F vs ds → intsOf ds = some bs → vs = bs.map V.int
  | _, _, _, .nil, h => by cases h; rfl
  | _, _, bs, .cons h r, e => by
    cases h with
    | int b =>
      rw [intsOf] at e
      obtain ⟨cs, e1, e2⟩ := Option.map_eq_some_iff.mp e
      subst e2
      rw [ints_of r e1]; rfl
    | _ => cases e
def mSum : List D → Option D
  | [.tup ds] => (intsOf ds).map fun ns => .int ns.sum
  | _ => none
def rSumT (K : PySem.W.Frag) : List V → Hp → VK → Prop := fun vs H Q => ∃ (a : Addr) (ns : List Int), vs = [V.ref a] ∧ SqT K H a (ns.map V.int) ∧ Q (.int ns.sum) H
theorem sum_rawT {prog : Program} {w : World} {A : Around} {E : Value → Shared → Prop} {s : Shared} {t : Addr} {its : List Value} {ns : List Int} {Q : Value → Shared → Prop} (hh : A.handled = none) (hl : s.heap.IsTuple t its.toArray) (hi : IntsAre its ns)
    (h : ∀ h' tk t', (∀ b o, s.heap.get? b = some o → h'.get? b = some o) → Q (.int ns.sum t') { s with heap := h', toks := tk }) : wpAny (model prog w) A (call (.builtin "sum") [.ref t]) Q E s := by
  obtain ⟨xs, e⟩ := hi.allInts.items
  have hn : numsOf (intItems xs).toList = ns := by rw [← e]; exact hi.numsOf
  rw [nums_intItems] at hn
  rw [e] at hl
  refine PySem.W.ktm_sumG hh hl fun h' tk t' hk => ?_
  have := h h' tk t' hk
  rw [preSum_eq, List.take_of_length_le (by simp), hn]; exact this
theorem cr_sumT (hc : X.calm = true) : CallR X (.builtin "sum") (rSumT X.K) := by
  intro pins s σ H vs us Q I r h
  obtain ⟨a, ns, rfl, hs, q⟩ := h
  obtain ⟨its, rv, hl, _⟩ := I.tuple hs
  rw [Vals.ref1 r]
  obtain ⟨o, ho, hc', n, hd⟩ := hl
  exact sum_rawT (I.ok.hd hc) ⟨o, ho, hc', n, hd⟩ rv.ints fun h' tk t' hk => ⟨.int _, H, I.kept hk, ⟨_, rfl⟩, q⟩
theorem cd_sumT (hK : g.K = X.K) : CallD g (rSumT X.K) mSum := by
  intro F H w vs ds z Q s b r hz q
  rw [← hK]
  unfold mSum at hz
  split at hz
  · obtain ⟨ns, e1, e2⟩ := Option.map_eq_some_iff.mp hz
    subst e2
    obtain ⟨v, rfl, h⟩ := drs1 r
    cases h with
    | tup h r => exact ⟨_, ns, rfl, by rw [← ints_of r e1]; exact same_T s h, here s b (.int _) q⟩
  · cases hz
theorem de_sum (hK : g.K = X.K) (hc : X.calm = true) (hm : X.mg "sum" = none) (ha : DA X g E (e :: es) fs) (hg : Gl X "sum" := by rfl)
    (he : starEach (e :: es) X.env = (false, eval e X.env) :: starEach es X.env := by rfl) (hpl : (backTo pos (starEach es X.env)).any (·.1) = false := by rfl) : DE X g E (.Call (.Name "sum" p) (e :: es) [] pos) (eB mSum fs) :=
  de_callB (cr_sumT hc) (cd_sumT hK) hm (by decide +kernel) ha hg (by decide) (by decide) he hpl
/-- the greatest -/
def topI : List Int → Int
  | [] => 0
  | [a] => a
  | a :: b :: r => max a (topI (b :: r))
theorem topI_ge : ∀ (l : List Int) (x : Int), x ∈ l → x ≤ topI l
  | [], _, h => nomatch h
  | [a], x, h => by simp at h; subst h; exact Int.le_refl _
  | a :: b :: r, x, h => by
    rcases List.mem_cons.mp h with rfl | h
    · exact Int.le_max_left _ _
    · exact Int.le_trans (topI_ge (b :: r) x h) (Int.le_max_right _ _)
theorem topI_mem : ∀ (l : List Int), l ≠ [] → topI l ∈ l
  | [], h => absurd rfl h
  | [a], _ => by simp [topI]
  | a :: b :: r, _ => by
    show max a (topI (b :: r)) ∈ _
    rcases Int.le_total a (topI (b :: r)) with h | h
    · rw [Int.max_eq_right h]; exact List.mem_cons_of_mem _ (topI_mem (b :: r) (by simp))
    · rw [Int.max_eq_left h]; exact List.mem_cons_self ..
def mMax : List D → Option D
  | [.lst ds] => match intsOf ds with
    | some (a :: r) => some (.int (topI (a :: r)))
    | _ => none
  | _ => none
theorem cd_max (hK : g.K = X.K) : CallD g (rMax X.K) mMax := by
  intro F H w vs ds z Q s b r hz q
  rw [← hK]
  unfold mMax at hz
  split at hz
  · rename_i ds
    cases hi : intsOf ds with
    | none => rw [hi] at hz; cases hz
    | some ns =>
      cases ns with
      | nil => rw [hi] at hz; cases hz
      | cons a r0 =>
        rw [hi] at hz
        cases hz
        obtain ⟨v, rfl, h⟩ := drs1 r
        cases h with
        | lst h r =>
          refine ⟨_, a :: r0, rfl, by rw [← ints_of r hi]; exact .inl (.inl (s _ _ h)), by simp, fun m h1 h2 => ?_⟩
          have : m = topI (a :: r0) := Int.le_antisymm (topI_ge _ _ h1) (h2 _ (topI_mem _ (by simp)))
          rw [this]; exact here s b (.int _) q
  · cases hz
theorem de_max (hK : g.K = X.K) (hc : X.calm = true) (hm : X.mg "max" = none) (ha : DA X g E (e :: es) fs) (hg : Gl X "max" := by rfl)
    (he : starEach (e :: es) X.env = (false, eval e X.env) :: starEach es X.env := by rfl) (hpl : (backTo pos (starEach es X.env)).any (·.1) = false := by rfl) : DE X g E (.Call (.Name "max" p) (e :: es) [] pos) (eB mMax fs) :=
  de_callB (cr_max hc) (cd_max hK) hm (by decide +kernel) ha hg (by decide) (by decide) he hpl
def mMax2 : List D → Option D
  | [.int i, .int j] => some (.int (if j > i then j else i))
  | _ => none
def mMin2 : List D → Option D
  | [.int i, .int j] => some (.int (if j < i then j else i))
  | _ => none
theorem cd_max2 : CallD g (fun xs H Q => ∃ i j, xs = [.int i, .int j] ∧ Q (.int (if j > i then j else i)) H) mMax2 := by
  intro F H w vs ds z Q s b r hz q
  unfold mMax2 at hz
  split at hz
  · cases hz
    obtain ⟨v, u, rfl, h1, h2⟩ := drs2 r
    cases h1; cases h2
    exact ⟨_, _, rfl, here s b (.int _) q⟩
  · cases hz
theorem cd_min2 : CallD g (fun xs H Q => ∃ i j, xs = [.int i, .int j] ∧ Q (.int (if j < i then j else i)) H) mMin2 := by
  intro F H w vs ds z Q s b r hz q
  unfold mMin2 at hz
  split at hz
  · cases hz
    obtain ⟨v, u, rfl, h1, h2⟩ := drs2 r
    cases h1; cases h2
    exact ⟨_, _, rfl, here s b (.int _) q⟩
  · cases hz
theorem de_max2 (hc : X.calm = true) (hm : X.mg "max" = none) (ha : DA X g E (e :: es) fs) (hg : Gl X "max" := by rfl)
    (he : starEach (e :: es) X.env = (false, eval e X.env) :: starEach es X.env := by rfl) (hpl : (backTo pos (starEach es X.env)).any (·.1) = false := by rfl) : DE X g E (.Call (.Name "max" p) (e :: es) [] pos) (eB mMax2 fs) :=
  de_callB (call_max2 hc) cd_max2 hm (by decide +kernel) ha hg (by decide) (by decide) he hpl
theorem de_min2 (hc : X.calm = true) (hm : X.mg "min" = none) (ha : DA X g E (e :: es) fs) (hg : Gl X "min" := by rfl)
    (he : starEach (e :: es) X.env = (false, eval e X.env) :: starEach es X.env := by rfl) (hpl : (backTo pos (starEach es X.env)).any (·.1) = false := by rfl) : DE X g E (.Call (.Name "min" p) (e :: es) [] pos) (eB mMin2 fs) :=
  de_callB (call_min2 hc) cd_min2 hm (by decide +kernel) ha hg (by decide) (by decide) he hpl
end
end Y
namespace Y
open PySem PySem.Spec PyProof.Rows L2
/-! ### texts as lists of codes -/
def tx (l : List Nat) : Str := ⟨l.toArray⟩
@[simp] theorem tx_list (l : List Nat) : (tx l).cps.toList = l := by simp [tx]
@[simp] theorem tx_len (l : List Nat) : (tx l).length = l.length := by simp [tx, Str.length]
theorem tx_app (a b : List Nat) : tx a ++ tx b = tx (a ++ b) := by
  show Str.append (tx a) (tx b) = _
  simp [tx, Str.append]
theorem tx_eta (s : Str) : tx s.cps.toList = s := by obtain ⟨c⟩ := s; simp [tx]
theorem tx_inj {a b : List Nat} : tx a = tx b ↔ a = b := ⟨fun h => by have := congrArg (fun s : Str => s.cps.toList) h; simpa using this, fun h => by rw [h]⟩
theorem tx_one (c : Nat) : (⟨#[c]⟩ : Str) = tx [c] := rfl
theorem tx_mul (l : List Nat) (n : Nat) : mulS (tx l) n = tx (List.replicate n l).flatten := by simp [mulS, tx]
theorem tx_cut (l : List Nat) (lo hi : Option Int) : cutS (tx l) lo hi = tx (cut l lo hi) := by
  unfold cutS cut
  simp only [tx_list, tx_len]
  rfl
theorem glue_nil : ∀ (ys : List (List Nat)) (a : Array Nat), ((ys.map tx).foldl (fun acc p => acc ++ (tx []).cps ++ p.cps) a).toList = a.toList ++ ys.flatten
  | [], a => by simp
  | y :: ys, a => by
    rw [List.map_cons, List.foldl_cons, glue_nil ys]
    simp [tx]
theorem tx_join (ys : List (List Nat)) : Txt.join (tx []) (ys.map tx) = tx ys.flatten := by
  show Builtin.Str.glued (tx []) (ys.map tx) = _
  cases ys with
  | nil => rfl
  | cons y ys =>
    unfold Builtin.Str.glued
    have h := glue_nil ys (tx y).cps
    apply congrArg Str.mk (a₁ := _) (a₂ := (List.flatten (y :: ys)).toArray)
    apply Array.toList_inj.mp
    simpa using h
/-! the number of a sign in a text -/
theorem sub_one (l : List Nat) (c i : Nat) : (i + 1 ≤ l.length ∧ Builtin.Str.subAt (tx l) (tx [c]) i = true) ↔ l[i]? = some c := by
  unfold Builtin.Str.subAt
  simp only [tx_len, List.length_singleton]
  constructor
  · rintro ⟨h1, h2⟩
    have h3 : ((tx l).cps.extract i (i + 1)).toList = [c] := by
      have := congrArg Array.toList (eq_of_beq h2)
      simpa [tx] using this
    rw [Array.toList_extract] at h3
    simp only [List.extract_eq_drop_take, tx_list, Nat.add_sub_cancel_left] at h3
    have h4 : l[i]? = (List.take 1 (List.drop i l))[0]? := by simp
    rw [h4, h3]; rfl
  · intro h
    obtain ⟨h1, h2⟩ := List.getElem?_eq_some_iff.mp h
    refine ⟨h1, ?_⟩
    apply beq_iff_eq.mpr
    apply Array.toList_inj.mp
    rw [Array.toList_extract]
    simp only [List.extract_eq_drop_take, tx_list, Nat.add_sub_cancel_left]
    rw [List.drop_eq_getElem_cons h1, h2]
    rfl
theorem occ_count (l : List Nat) (c lim : Nat) : ∀ (n i : Nat) (acc : Array Nat) (free : Nat), i + n = l.length + 1 → free ≤ i → acc.size + n ≤ lim →
    ((forIn (List.range' i n) (acc, free) (StrLaws.occBody (tx l) (tx [c]) l.length lim)).run.fst).size = acc.size + (l.drop i).count c
  | 0, i, acc, free, h1, h2, h3 => by
    rw [List.range'_zero, List.forIn_nil, List.drop_eq_nil_of_le (by omega)]; simp
  | n + 1, i, acc, free, h1, h2, h3 => by
    rw [List.range'_succ, List.forIn_cons]
    unfold StrLaws.occBody
    by_cases hc : l[i]? = some c
    · obtain ⟨a1, a2⟩ := (sub_one l c i).mpr hc
      have hlt : i < l.length := by omega
      have hg : l[i] = c := by rw [List.getElem?_eq_getElem hlt] at hc; exact Option.some.inj hc
      have cond : (((acc, free).fst.size < lim ∧ (acc, free).snd ≤ i) ∧ i + (tx [c]).length ≤ l.length) ∧ Builtin.Str.subAt (tx l) (tx [c]) i = true := ⟨⟨⟨by show acc.size < lim; omega, h2⟩, by rw [tx_len]; exact a1⟩, a2⟩
      rw [if_pos cond]
      have ih := occ_count l c lim n (i + 1) (acc.push i) (i + (tx [c]).length) (by omega) (by rw [tx_len]; exact Nat.le_refl _) (by rw [Array.size_push]; omega)
      refine Eq.trans ih ?_
      rw [Array.size_push, List.drop_eq_getElem_cons hlt, hg, List.count_cons_self]
      omega
    · have cond : ¬ ((((acc, free).fst.size < lim ∧ (acc, free).snd ≤ i) ∧ i + (tx [c]).length ≤ l.length) ∧ Builtin.Str.subAt (tx l) (tx [c]) i = true) := fun ⟨⟨_, b⟩, d⟩ => hc ((sub_one l c i).mp ⟨by rw [tx_len] at b; exact b, d⟩)
      rw [if_neg cond]
      have ih := occ_count l c lim n (i + 1) acc free (by omega) (by omega) (by omega)
      refine Eq.trans ih ?_
      by_cases hlt : i < l.length
      · have hg : l[i] ≠ c := fun e => hc (by rw [List.getElem?_eq_getElem hlt, e])
        rw [List.drop_eq_getElem_cons hlt, List.count_cons_of_ne hg]
      · rw [List.drop_eq_nil_of_le (by omega), List.drop_eq_nil_of_le (by omega)]
theorem tx_count (l : List Nat) (c : Nat) : Txt.count (tx l) (tx [c]) = (l.count c : Int) := by
  unfold Txt.count
  rw [StrLaws.occ_eq, tx_len]
  have h := occ_count l c (l.length + 1) (l.length + 1) 0 #[] 0 (by omega) (Nat.le_refl 0) (by simp)
  rw [Nat.sub_zero]
  have h2 : ((forIn (List.range' 0 (l.length + 1)) ((#[] : Array Nat), 0) (StrLaws.occBody (tx l) (tx [c]) l.length (l.length + 1))).run.fst).toList.length = l.count c := by
    rw [Array.length_toList, h]; simp
  rw [h2]
/-! ### same data -/
def sameD : Nat → D → D → Bool
  | 0, _, _ => false
  | n + 1, d, e => match d, e with
    | .non, .non => true
    | .bl a, .bl b => a == b
    | .int a, .int b => a == b
    | .str a, .str b => a == b
    | .lst a, .lst b => (a.length == b.length && decide (a.length ≤ sizeN)) && (a.zip b).all fun p => sameD n p.1 p.2
    | .tup a, .tup b => (a.length == b.length && decide (a.length ≤ sizeN)) && (a.zip b).all fun p => sameD n p.1 p.2
    | _, _ => false
theorem bls_map {β : Type} (f : β → Bool) : ∀ l : List β, blsOf (l.map fun c => .bl (f c)) = some (l.map f)
  | [] => rfl
  | c :: l => by rw [List.map_cons, blsOf, bls_map f l]; rfl
def mSame (n : Nat) : List D → Bx → R D := fun ds w => match ds with
  | [d, e] => if sameD n d e then .ok (.bl true) w else .bad
  | _ => .bad
end Y
namespace Y
open PySem PySem.Spec PyProof.Rows L2
/-! ### a meaning, step by step -/
theorem at_int {α : Type} {xs : List α} {r : Int} (h0 : 0 ≤ r) (hr : r.toNat < xs.length) : atI xs r = some xs[r.toNat] := by
  have h := atI_nat (List.getElem?_eq_getElem hr)
  rwa [Int.toNat_of_nonneg h0] at h
section
variable {S S1 : SL} {w w1 w2 w3 : Bx} {d e z : D} {ds es : List D} {m k : SM} {f fa fb : EM} {fs : AM} {t u : TM} {b : Bool} {i : Nat} {α : Type}
theorem x_seq {r : RS} (h : m S w = .nx S1 w1) (h2 : k S1 w1 = r) : sSeq m k S w = r := by unfold sSeq; rw [h]; exact h2
theorem x_seqR (h : m S w = .rt d w1) : sSeq m k S w = .rt d w1 := by unfold sSeq; rw [h]
theorem x_seqC (h : m S w = .ct S1 w1) : sSeq m k S w = .ct S1 w1 := by unfold sSeq; rw [h]
theorem x_seqE {c : Str} {fs : List (Str × D)} (h : m S w = .err S1 c fs w1) : sSeq m k S w = .err S1 c fs w1 := by unfold sSeq; rw [h]
theorem x_ifT {r : RS} (h : t S w = .ok true w1) (h2 : m S w1 = r) : sIf t m k S w = r := by unfold sIf; rw [h]; exact h2
theorem x_ifF {r : RS} (h : t S w = .ok false w1) (h2 : k S w1 = r) : sIf t m k S w = r := by unfold sIf; rw [h]; exact h2
theorem x_if (h : t S w = .ok b w1) : sIf t m k S w = if b then m S w1 else k S w1 := by unfold sIf; rw [h]; rfl
theorem x_set (h : f S w = .ok d w1) : sSet i f S w = .nx (S.set i (some (.dat d))) w1 := by unfold sSet; rw [h]; rfl
theorem x_setO (h : fs S w = .ok ds w1) : sSetO i fs S w = .nx (S.set i (some (.own ds))) w1 := by unfold sSetO; rw [h]; rfl
theorem x_ret (h : f S w = .ok d w1) : sRet f S w = .rt d w1 := by unfold sRet; rw [h]; rfl
theorem x_drop (h : f S w = .ok d w1) : sDrop f S w = .nx S w1 := by unfold sDrop; rw [h]; rfl
theorem x_par {j : Nat} (h : fs S w = .ok [d, e] w1) : sPar i j fs S w = .nx ((S.set i (some (.dat d))).set j (some (.dat e))) w1 := by unfold sPar; rw [h]; rfl
theorem x_par3 {j l : Nat} (h : fs S w = .ok [d, e, z] w1) : sPar3 i j l fs S w = .nx (((S.set i (some (.dat d))).set j (some (.dat e))).set l (some (.dat z))) w1 := by unfold sPar3; rw [h]; rfl
theorem x_asg {gm : GM} (h : f S w = .ok d w1) (hg : gm d S = some S1) : sAsg f gm S w = .nx S1 w1 := by unfold sAsg; rw [h, R.to_ok, hg]
theorem x_bin {mo : D → D → Option D} (ha : fa S w = .ok d w1) (hb : fb S w1 = .ok e w2) (hm : mo d e = some z) : eBin mo fa fb S w = .ok z w2 := by unfold eBin; rw [ha, R.bind_ok, hb, R.bind_ok, hm]; rfl
theorem x_e1 {mo : D → Option D} (ha : fa S w = .ok d w1) (hm : mo d = some z) : e1 mo fa S w = .ok z w1 := by unfold e1; rw [ha, R.bind_ok, hm]; rfl
theorem x_m1 {mo : D → D → Option D} {s : Str} (ha : fa S w = .ok (.str s) w1) (hb : fb S w1 = .ok e w2) (hm : mo (.str s) e = some z) : eM1 mo fa fb S w = .ok z w2 := by unfold eM1; rw [ha, R.bind_ok]; show R.bind (fb S w1) _ = _; rw [hb, R.bind_ok, hm]; rfl
theorem x_B {mo : List D → Option D} (ha : fs S w = .ok ds w1) (hm : mo ds = some z) : eB mo fs S w = .ok z w1 := by unfold eB; rw [ha, R.bind_ok, hm]; rfl
theorem x_oB {mo : List D → Option (List D)} (ha : fs S w = .ok ds w1) (hm : mo ds = some es) : oB mo fs S w = .ok es w1 := by unfold oB; rw [ha, R.bind_ok, hm]; rfl
theorem x_nil : aNil S w = .ok [] w := rfl
theorem x_cons (ha : f S w = .ok d w1) (hr : fs S w1 = .ok ds w2) : aCons f fs S w = .ok (d :: ds) w2 := by unfold aCons; rw [ha, R.bind_ok, hr]; rfl
theorem x_call {n : Nat} {mm : List D → Bx → R D} {r : R D} (ha : fs S w = .ok ds w1) (hl : ds.length = n) (hm : mm ds w1 = r) : eCall n mm fs S w = r := by unfold eCall; rw [ha, R.bind_ok, if_pos hl, hm]
theorem x_tup (ha : fs S w = .ok ds w1) (hl : ds.length ≤ sizeN) : eTup fs S w = .ok (.tup ds) w1 := by unfold eTup; rw [ha, R.bind_ok, if_pos hl]
theorem x_lst (ha : fs S w = .ok ds w1) (hl : ds.length ≤ sizeN) : oLst fs S w = .ok ds w1 := by unfold oLst; rw [ha, R.bind_ok, if_pos hl]
theorem x_frz (ha : fs S w = .ok ds w1) : eFrz fs S w = .ok (.lst ds) w1 := by unfold eFrz; rw [ha]; rfl
theorem x_tOf (h : f S w = .ok (.bl b) w1) : tOf f S w = .ok b w1 := by unfold tOf; rw [h]; rfl
theorem x_not (h : t S w = .ok b w1) : tNotM t S w = .ok (!b) w1 := by unfold tNotM; rw [h]; rfl
theorem x_notT (h : t S w = .ok true w1) : tNotM t S w = .ok false w1 := by unfold tNotM; rw [h]; rfl
theorem x_notF (h : t S w = .ok false w1) : tNotM t S w = .ok true w1 := by unfold tNotM; rw [h]; rfl
theorem x_enotT (h : fa S w = .ok (.bl true) w1) : eNotM fa S w = .ok (.bl false) w1 := by unfold eNotM; rw [x_tOf h]; rfl
theorem x_enotF (h : fa S w = .ok (.bl false) w1) : eNotM fa S w = .ok (.bl true) w1 := by unfold eNotM; rw [x_tOf h]; rfl
theorem rng_ok {q : Int} (h0 : 0 ≤ q) (h1 : q < 4611686018427387904) : rngOf [.int q] = some (upFrom 0 q.toNat) := by
  show (if -(2 ^ 62) ≤ q ∧ q < 2 ^ 62 then some (upFrom 0 q.toNat) else none) = _
  rw [if_pos ⟨by omega, by omega⟩]
theorem x_andT {r : R Bool} (h : t S w = .ok true w1) (h2 : u S w1 = r) : tAndM t u S w = r := by unfold tAndM; rw [h, R.bind_ok, if_pos rfl, h2]
theorem x_andF (h : t S w = .ok false w1) : tAndM t u S w = .ok false w1 := by unfold tAndM; rw [h]; rfl
theorem x_orT (h : t S w = .ok true w1) : tOrM t u S w = .ok true w1 := by unfold tOrM; rw [h]; rfl
theorem x_orF {r : R Bool} (h : t S w = .ok false w1) (h2 : u S w1 = r) : tOrM t u S w = r := by unfold tOrM; rw [h, R.bind_ok]; exact h2
theorem x_eandT {r : R D} (h : fa S w = .ok (.bl true) w1) (h2 : fb S w1 = r) : eAndM fa fb S w = r := by unfold eAndM; rw [x_tOf h, R.bind_ok, if_pos rfl, h2]
theorem x_eandF (h : fa S w = .ok (.bl false) w1) : eAndM fa fb S w = .ok (.bl false) w1 := by unfold eAndM; rw [x_tOf h]; rfl
theorem x_eorT (h : fa S w = .ok (.bl true) w1) : eOrM fa fb S w = .ok (.bl true) w1 := by unfold eOrM; rw [x_tOf h]; rfl
theorem x_eorF {r : R D} (h : fa S w = .ok (.bl false) w1) (h2 : fb S w1 = r) : eOrM fa fb S w = r := by unfold eOrM; rw [x_tOf h, R.bind_ok]; exact h2
theorem x_enot (h : fa S w = .ok (.bl b) w1) : eNotM fa S w = .ok (.bl (!b)) w1 := by unfold eNotM; rw [x_tOf h]; rfl
theorem x_eifT {r : R D} (h : t S w = .ok true w1) (h2 : fa S w1 = r) : eIf t fa fb S w = r := by unfold eIf; rw [h, R.bind_ok, if_pos rfl, h2]
theorem x_eifF {r : R D} (h : t S w = .ok false w1) (h2 : fb S w1 = r) : eIf t fa fb S w = r := by unfold eIf; rw [h, R.bind_ok]; exact h2
theorem x_any (h : f S w = .ok d w1) (hi : itemsOf d = some ds) : iAny f S w = .ok ds w1 := by unfold iAny; rw [h, R.bind_ok, hi]; rfl
theorem x_by {mo : List D → Option (List D)} (h : fs S w = .ok ds w1) (hi : mo ds = some es) : iBy mo fs S w = .ok es w1 := by unfold iBy; rw [h, R.bind_ok, hi]; rfl
theorem x_pSome {n : Int} (h : f S w = .ok (.int n) w1) : pSome f S w = .ok (some n) w1 := by unfold pSome; rw [h]; rfl
theorem x_sl {lo hi : Option Int} {l h : SL → Bx → R (Option Int)} (ha : f S w = .ok d w1) (hl : l S w1 = .ok lo w2) (hh : h S w2 = .ok hi w3) (hm : mSl d lo hi = some z) : eSl f l h S w = .ok z w3 := by unfold eSl; rw [ha, R.bind_ok, hl, R.bind_ok, hh, R.bind_ok, hm]; rfl
theorem x_for {fi : AM} {gm : GM} {body : SM} {r : RS} (h : fi S w = .ok ds w1) (hl : forLoop gm body ds S w1 = r) : sFor fi gm body S w = r := by unfold sFor; rw [h]; exact hl
theorem x_frzS {j : Nat} {r : RS} (h : m (frz j S) w = r) : sFrz j m S w = r := h
theorem x_bx {n : Int} (hb : isBox S i = true) (h : bxGet w n = some z) : eBx i n S w = .ok z w := by unfold eBx; rw [if_pos hb, h]; rfl
theorem x_sbx {n : Int} (h : f S w = .ok d w1) (hb : isBox S i = true) (hp : bxPut w1 n d = some w2) : sBx i n f S w = .nx S w2 := by unfold sBx; rw [h, R.to_ok, if_pos hb, hp]
/-- a comprehension whose elements are told one by one -/
theorem x_lc {fi : AM} {gm : GM} {tm : TM} {em : EM} {vs : List Nat} {r : R (List D)} (h : fi S w = .ok ds w1) (hl : ds.length ≤ sizeN) (hr : lcLoop gm tm em (wipeS S vs) ds w1 = r) : oLc fi gm tm em vs S w = r := by unfold oLc; rw [h, R.bind_ok, if_pos hl, hr]
theorem x_lcN {gm : GM} {tm : TM} {em : EM} : lcLoop gm tm em S [] w = .ok [] w := rfl
theorem x_lcC {gm : GM} {tm : TM} {em : EM} (hg : gm d S = some S1) (ht : tm S1 w = .ok true w1) (he : em S1 w1 = .ok e w2) (hr : lcLoop gm tm em S ds w2 = .ok es w3) : lcLoop gm tm em S (d :: ds) w = .ok (e :: es) w3 := by
  unfold lcLoop; rw [hg]; simp only [ht, he, R.nx, R.bind_ok, if_true, hr]
theorem x_lcS {gm : GM} {tm : TM} {em : EM} {r : R (List D)} (hg : gm d S = some S1) (ht : tm S1 w = .ok false w1) (hr : lcLoop gm tm em S ds w1 = r) : lcLoop gm tm em S (d :: ds) w = r := by
  rw [show lcLoop gm tm em S (d :: ds) w = (match gm d S with | none => .bad | some S1 => (tm S1 w).nx.bind fun b w1 => if b then (em S1 w1).nx.bind fun y w2 => (lcLoop gm tm em S ds w2).bind fun ys w3 => .ok (y :: ys) w3 else lcLoop gm tm em S ds w1) from rfl, hg]
  simp only [ht, R.nx, R.bind_ok]
  exact hr
/-- no draw in it: a map and a filter -/
theorem x_lcF {gm : GM} {tm : TM} {em : EM} (p : D → Bool) (g : D → D) : ∀ (ds : List D) (w : Bx), (∀ x ∈ ds, ∃ S1, gm x S = some S1 ∧ tm S1 w = .ok (p x) w ∧ (p x = true → em S1 w = .ok (g x) w)) → lcLoop gm tm em S ds w = .ok ((ds.filter p).map g) w
  | [], w, _ => rfl
  | x :: ds, w, h => by
    obtain ⟨S1, h1, h2, h3⟩ := h x (List.mem_cons_self ..)
    have ih := x_lcF p g ds w fun y hy => h y (List.mem_cons_of_mem _ hy)
    cases hp : p x with
    | true =>
      rw [List.filter_cons_of_pos hp, List.map_cons]
      exact x_lcC h1 (hp ▸ h2) (h3 hp) ih
    | false =>
      rw [List.filter_cons_of_neg (by simp [hp])]
      exact x_lcS h1 (hp ▸ h2) ih
theorem x_lcM {gm : GM} {em : EM} (g : D → D) (ds : List D) (w : Bx) (h : ∀ x ∈ ds, ∃ S1, gm x S = some S1 ∧ em S1 w = .ok (g x) w) : lcLoop gm tYesM em S ds w = .ok (ds.map g) w := by
  have := x_lcF (tm := tYesM) (fun _ => true) g ds w fun x hx => by
    obtain ⟨S1, h1, h2⟩ := h x hx
    exact ⟨S1, h1, rfl, fun _ => h2⟩
  rwa [List.filter_eq_self.mpr (fun _ _ => rfl)] at this
/-- the same over a list of anything -/
theorem x_lcL {β : Type} {gm : GM} {tm : TM} {em : EM} (f g : β → D) (p : β → Bool) : ∀ (l : List β) (w : Bx), (∀ c ∈ l, ∃ S1, gm (f c) S = some S1 ∧ tm S1 w = .ok (p c) w ∧ (p c = true → em S1 w = .ok (g c) w)) → lcLoop gm tm em S (l.map f) w = .ok ((l.filter p).map g) w
  | [], w, _ => rfl
  | x :: ds, w, h => by
    obtain ⟨S1, h1, h2, h3⟩ := h x (List.mem_cons_self ..)
    have ih := x_lcL f g p ds w fun y hy => h y (List.mem_cons_of_mem _ hy)
    rw [List.map_cons]
    cases hp : p x with
    | true =>
      rw [List.filter_cons_of_pos hp, List.map_cons]
      exact x_lcC h1 (hp ▸ h2) (h3 hp) ih
    | false =>
      rw [List.filter_cons_of_neg (by simp [hp])]
      exact x_lcS h1 (hp ▸ h2) ih
theorem x_lcT {β : Type} {gm : GM} {em : EM} (f g : β → D) (l : List β) (w : Bx) (h : ∀ c ∈ l, ∃ S1, gm (f c) S = some S1 ∧ em S1 w = .ok (g c) w) : lcLoop gm tYesM em S (l.map f) w = .ok (l.map g) w := by
  have := x_lcL (tm := tYesM) f g (fun _ => true) l w fun x hx => by
    obtain ⟨S1, h1, h2⟩ := h x hx
    exact ⟨S1, h1, rfl, fun _ => h2⟩
  rwa [List.filter_eq_self.mpr (fun _ _ => rfl)] at this
/-- with draws: each element has the property -/
theorem x_lcP {gm : GM} {em : EM} (P : D → Prop) : ∀ (ds : List D) (w : Bx), (∀ x ∈ ds, ∀ w, ∃ S1 y w', gm x S = some S1 ∧ em S1 w = .ok y w' ∧ P y) → ∃ ys w', lcLoop gm tYesM em S ds w = .ok ys w' ∧ ys.length = ds.length ∧ ∀ y ∈ ys, P y
  | [], w, _ => ⟨[], w, rfl, rfl, fun _ h => nomatch h⟩
  | x :: ds, w, h => by
    obtain ⟨S1, y, w1, h1, h2, h3⟩ := h x (List.mem_cons_self ..) w
    obtain ⟨ys, w2, h4, h5, h6⟩ := x_lcP P ds w1 fun z hz => h z (List.mem_cons_of_mem _ hz)
    exact ⟨y :: ys, w2, x_lcC h1 rfl h2 h4, by rw [List.length_cons, List.length_cons, h5], fun z hz => (List.mem_cons.mp hz).elim (fun e => e ▸ h3) (h6 z)⟩
theorem x_run {n l : Nat} {body : SM} {ds : List D} (hl : ds.length = n) (h : body (startS l ds) w = .rt d w1) : runF n l body ds w = .ok d w1 := by unfold runF; rw [if_pos hl, h]
theorem x_runE {n l : Nat} {body : SM} {ds : List D} {c : Str} {fs : List (Str × D)} (hl : ds.length = n) (h : body (startS l ds) w = .err S1 c fs w1) : runF n l body ds w = .err c fs w1 := by unfold runF; rw [if_pos hl, h]
theorem x_runN {n l : Nat} {body : SM} {ds : List D} (hl : ds.length = n) (h : body (startS l ds) w = .nx S1 w1) : runF n l body ds w = .ok .non w1 := by unfold runF; rw [if_pos hl, h]
/-- a for whose turns go on, whatever is drawn -/
theorem x_forP {gm : GM} {body : SM} (I : SL → Prop) : ∀ (ds : List D) (S : SL) (w : Bx), I S → (∀ x ∈ ds, ∀ S w, I S → ∃ S1, gm x S = some S1 ∧ ∃ S2 w2, (body S1 w = .nx S2 w2 ∨ body S1 w = .ct S2 w2) ∧ I S2) → ∃ S2 w2, forLoop gm body ds S w = .nx S2 w2 ∧ I S2
  | [], S, w, h, _ => ⟨S, w, rfl, h⟩
  | x :: ds, S, w, h, hb => by
    obtain ⟨S1, h1, S2, w2, h2, h3⟩ := hb x (List.mem_cons_self ..) S w h
    obtain ⟨S3, w3, h4, h5⟩ := x_forP I ds S2 w2 h3 fun y hy => hb y (List.mem_cons_of_mem _ hy)
    refine ⟨S3, w3, ?_, h5⟩
    show (match gm x S with | none => RS.bad | some S1 => _) = _
    rw [h1]
    rcases h2 with h2 | h2
    · simp only [h2]; exact h4
    · simp only [h2]; exact h4
end
end Y

namespace Y
open PySem PySem.Spec PyProof.Rows L2
theorem x_same {n : Nat} {d e : D} {w : Bx} (h : sameD n d e = true) : mSame n [d, e] w = .ok (.bl true) w := by
  show (if sameD n d e then R.ok (D.bl true) w else .bad) = _
  rw [if_pos h]
theorem lsz {n m : Nat} (h : Nat.ble n m = true) : n ≤ m := Nat.le_of_ble_eq_true h
theorem lit_nil : ("" : Str) = tx [] := by decide +kernel
theorem lit_ab : ("ab" : Str) = tx [97, 98] := by decide +kernel
theorem lit_a : ("a" : Str) = tx [97] := by decide +kernel
theorem lit_b : ("b" : Str) = tx [98] := by decide +kernel
theorem items_tx (l : List Nat) : itemsOf (.str (tx l)) = some (l.map fun c => .str (tx [c])) := by
  show some (Y.signs (tx l)) = _
  unfold Y.signs; rw [tx_list]; rfl
theorem strs_any (P : Nat → Prop) : ∀ (ys : List D), (∀ y ∈ ys, ∃ c, P c ∧ y = .str (tx [c])) → ∃ l : List Nat, (∀ c ∈ l, P c) ∧ l.length = ys.length ∧ strsOf ys = some ((l.map fun c => [c]).map tx)
  | [], _ => ⟨[], (fun _ h => nomatch h), rfl, rfl⟩
  | y :: ys, h => by
    obtain ⟨c, hc, rfl⟩ := h y (List.mem_cons_self ..)
    obtain ⟨l, h1, h2, h3⟩ := strs_any P ys fun z hz => h z (List.mem_cons_of_mem _ hz)
    exact ⟨c :: l, fun z hz => (List.mem_cons.mp hz).elim (fun e => e ▸ hc) (h1 z), by simp [h2], by simp [strsOf, h3]⟩
theorem sum_ones (l : List Nat) : (((l.map fun c => [c]).map tx).map (·.length)).sum = l.length := by
  induction l with
  | nil => rfl
  | cons c l ih => simp only [List.map_cons, List.sum_cons, tx_len, List.length_cons, List.length_nil, ih]; omega
theorem flat_ones (l : List Nat) : (l.map fun c => [c]).flatten = l := by
  induction l with
  | nil => rfl
  | cons c l ih => simp [ih]
theorem join_ones (l : List Nat) (h : l.length ≤ 16777216) {ys : List D} (hy : strsOf ys = some ((l.map fun c => [c]).map tx)) : mJoin (.str "") (.lst ys) = some (.str (tx l)) := by
  unfold mJoin
  simp only [hy, Option.bind_some]
  unfold joinS
  rw [lit_nil, sum_ones, if_pos (by simp [sizeN]; omega), tx_join, flat_ones]
theorem one_eq (c k : Nat) (s : Str) (hs : s = tx [k]) : mEq (.str (tx [c])) (.str s) = some (.bl (decide (c = k))) := by
  subst hs
  unfold mEq eqB
  simp [tx_inj]
theorem len_tx {l : List Nat} (h : l.length ≤ 16777216) : mLen [.str (tx l)] = some (.int (l.length : Int)) := by
  show (if (tx l).length ≤ sizeN then some (D.int ((tx l).length : Int)) else none) = _
  rw [tx_len, if_pos (show l.length ≤ sizeN from h)]
end Y
namespace Y
open PySem PySem.Spec PyProof.Rows L2
/-! ### where a sign stands -/
def spots (l : List Nat) (c : Nat) : List Nat := (List.range l.length).filter fun i => decide (l.getD i 0 = c)
def locO (l : List Nat) (c n : Nat) (fr : Bool) : Option Nat := if (spots l c).length < n then none else some (if fr then (spots l c).getD (n - 1) 0 else (spots l c).getD ((spots l c).length - n) 0)
theorem num_tx (l : List Nat) : numbered (Y.signs (tx l)) = (List.range l.length).map fun i => .tup [.int (i : Int), .str (tx [l.getD i 0])] := by
  apply List.ext_getElem?
  intro i
  unfold numbered Y.signs
  rw [tx_list, List.getElem?_map, List.getElem?_map]
  by_cases h : i < l.length
  · rw [List.getElem?_eq_getElem (by simpa using h), List.getElem?_eq_getElem (by simpa using h)]
    simp [h, List.getElem?_eq_getElem h]
    rfl
  · rw [List.getElem?_eq_none (by simpa using h), List.getElem?_eq_none (by simpa using h)]
    rfl
theorem ix_tx {l : List Nat} {i : Nat} (hl : l.length ≤ 16777216) (h : i < l.length) : mIx (.str (tx l)) (.int (i : Int)) = some (.str (tx [l.getD i 0])) := by
  show (if (tx l).length ≤ sizeN then (atI (tx l).cps.toList (i : Int)).map (fun c => D.str ⟨#[c]⟩) else none) = _
  rw [tx_len, if_pos (show l.length ≤ sizeN from hl), tx_list, atI_nat (List.getElem?_eq_getElem h)]
  simp [List.getElem?_eq_getElem h]
  rfl
theorem ix_ints {l : List Nat} {i : Nat} (h : i < l.length) : mIx (.lst (l.map fun (i : Nat) => D.int (i : Int))) (.int (i : Int)) = some (.int (l.getD i 0 : Nat)) := by
  show atI _ _ = _
  rw [atI_nat (v := .int (l[i] : Int)) (by rw [List.getElem?_map, List.getElem?_eq_getElem h]; rfl)]
  simp [List.getElem?_eq_getElem h]
theorem ix_back {l : List Nat} {n : Nat} (h0 : 0 < n) (h : n ≤ l.length) : mIx (.lst (l.map fun (i : Nat) => D.int (i : Int))) (.int (-(n : Int))) = some (.int (l.getD (l.length - n) 0 : Nat)) := by
  have hl : l.length - n < l.length := by omega
  show atI _ _ = _
  unfold atI ixN
  rw [List.length_map, if_neg (by omega), if_pos (by omega)]
  have e : (-(n : Int) + (l.length : Int)).toNat = l.length - n := by omega
  rw [e]
  simp [List.getElem?_eq_getElem hl]
theorem len_ints (l : List Nat) : mLen [.lst (l.map fun (i : Nat) => D.int (i : Int))] = some (.int (l.length : Int)) := by
  show some (D.int (_ : Int)) = _
  rw [List.length_map]
theorem spots_len (l : List Nat) (c : Nat) : (spots l c).length ≤ l.length := by
  unfold spots
  exact Nat.le_trans (List.length_filter_le ..) (by simp)
end Y
namespace Y
open PySem PySem.Spec PyProof.Rows L2
/-! ### a little evaluator -/
def isT : Option D → Bool
  | some (.bl true) => true
  | _ => false
def isF : Option D → Bool
  | some (.bl false) => true
  | _ => false
theorem of_isT {o : Option D} (h : isT o = true) : o = some (.bl true) := by
  unfold isT at h
  split at h
  · rfl
  · cases h
theorem of_isF {o : Option D} (h : isF o = true) : o = some (.bl false) := by
  unfold isF at h
  split at h
  · rfl
  · cases h
section
variable {S : SL} {w w1 w2 w3 : Bx} {d e z : D} {i : Nat}
theorem x_var (h : S[i]? = some (some (.dat d))) : eVar i S w = .ok d w := by unfold eVar; rw [h]
theorem x_C : eC d S w = .ok d w := rfl
theorem x_pN : pNone S w = .ok none w := rfl
theorem x_skip : sNil S w = .nx S w := rfl
end
structure Stuck (p : Prop) : Prop where
  h : p
theorem st_eq {a b : D} {o : Option D} (s : Stuck (mEq a b = o)) : mEq a b = o := s.h
theorem st_ne {a b : D} {o : Option D} (s : Stuck (mNe a b = o)) : mNe a b = o := s.h
theorem st_in {a b : D} {o : Option D} (s : Stuck (mIn a b = o)) : mIn a b = o := s.h
theorem st_nin {a b : D} {o : Option D} (s : Stuck (mNotIn a b = o)) : mNotIn a b = o := s.h
theorem st_tab {t : List (Str × Str)} {a : D} {o : Option D} (s : Stuck (mTab t a = o)) : mTab t a = o := s.h
theorem st_tabD {t : List (Str × Str)} {a b : D} {o : Option D} (s : Stuck (mTabD t a b = o)) : mTabD t a b = o := s.h
theorem st_call {m : List D → Bx → R D} {ds : List D} {w : Bx} {o : R D} (s : Stuck (m ds w = o)) : m ds w = o := s.h
theorem tqO {a b : Option D} (h : a = b) : a = b := h
theorem tqN {a b : Nat} (h : a = b) : a = b := h
theorem tqB {a b : Bool} (h : a = b) : a = b := h
theorem tqD {a b : D} (h : a = b) : a = b := h
theorem tqL {a b : Option (List D)} (h : a = b) : a = b := h
theorem x_tupZ {fs : AM} {S : SL} {w w1 : Bx} {ds : List D} {z : D} (ha : fs S w = .ok ds w1) (hl : ds.length ≤ sizeN) (hz : D.tup ds = z) : eTup fs S w = .ok z w1 := hz ▸ x_tup ha hl
/-! ### texts -/
theorem add_tx {a b : List Nat} (h : a.length + b.length ≤ 16777216) : mAdd (.str (tx a)) (.str (tx b)) = some (.str (tx (a ++ b))) := by
  unfold mAdd
  simp only [tx_len]
  rw [if_pos (show a.length + b.length ≤ sizeN from h), tx_app]
theorem sl_take {l : List Nat} {i : Nat} (hl : l.length ≤ 16777216) (h : i ≤ l.length) : mSl (.str (tx l)) none (some (i : Int)) = some (.str (tx (l.take i))) := by
  unfold mSl
  simp only [tx_len]
  rw [if_pos (show l.length ≤ sizeN from hl), tx_cut]
  unfold cut
  rw [HT.sIx_nat, HT.sIx_none, Nat.min_eq_left h]
  simp
theorem sl_drop {l : List Nat} {i : Nat} (hl : l.length ≤ 16777216) (h : i ≤ l.length) : mSl (.str (tx l)) (some (i : Int)) none = some (.str (tx (l.drop i))) := by
  unfold mSl
  simp only [tx_len]
  rw [if_pos (show l.length ≤ sizeN from hl), tx_cut]
  unfold cut
  rw [HT.sIx_nat, HT.sIx_none, Nat.min_eq_left h]
  rw [List.take_of_length_le (by simp)]
/-! ### edits -/
structure Pl where
  c : Nat
  n : Nat
  fr : Bool
inductive Kd where
  | bef (c : Nat) | aft (c : Nat) | rem | flp
inductive Ed where
  | keep | pre (c : Nat) | app (c : Nat) | at_ (k : Kd) (p : Pl)
def endS (fr : Bool) : Str := if fr then "front" else "back"
def placeD (c n : Nat) (fr : Bool) : D := .tup [.str (tx [c]), .int (n : Int), .str (endS fr)]
def plD (p : Pl) : D := placeD p.c p.n p.fr
def edD : Ed → D
  | .keep => .tup [.str "keep"]
  | .pre c => .tup [.str "prepend", .str (tx [c])]
  | .app c => .tup [.str "append", .str (tx [c])]
  | .at_ (.bef c) p => .tup [.str "before", plD p, .str (tx [c])]
  | .at_ (.aft c) p => .tup [.str "after", plD p, .str (tx [c])]
  | .at_ .rem p => .tup [.str "remove", plD p]
  | .at_ .flp p => .tup [.str "flip", plD p]
def AB (c : Nat) : Prop := c = 97 ∨ c = 98
instance (c : Nat) : Decidable (AB c) := inferInstanceAs (Decidable (_ ∨ _))
def PlOk (p : Pl) : Prop := AB p.c ∧ 0 < p.n ∧ p.n ≤ 3
def KdOk : Kd → Prop
  | .bef c => AB c
  | .aft c => AB c
  | _ => True
def EdOk : Ed → Prop
  | .keep => True
  | .pre c => AB c
  | .app c => AB c
  | .at_ k p => KdOk k ∧ PlOk p
def flipC (c : Nat) : Nat := if c = 97 then 98 else 97
def piece : Kd → Nat → List Nat
  | .bef c, s => [c, s]
  | .aft c, s => [s, c]
  | .rem, _ => []
  | .flp, s => [flipC s]
def locP (l : List Nat) (p : Pl) : Option Nat := locO l p.c p.n p.fr
def apE : Ed → List Nat → List Nat
  | .keep, l => l
  | .pre c, l => c :: l
  | .app c, l => l ++ [c]
  | .at_ k p, l => match locP l p with
    | none => l
    | some i => l.take i ++ (piece k (l.getD i 0) ++ l.drop (i + 1))
theorem locO_lt {l : List Nat} {c n i : Nat} {fr : Bool} (h0 : 0 < n) (h : locO l c n fr = some i) : i < l.length ∧ l.getD i 0 = c := by
  unfold locO at h
  split at h
  · cases h
  · rename_i hn
    have hm : i ∈ spots l c := by
      cases h
      split
      · rw [List.getD_eq_getElem?_getD, List.getElem?_eq_getElem (by omega)]; exact List.getElem_mem _
      · rw [List.getD_eq_getElem?_getD, List.getElem?_eq_getElem (by omega)]; exact List.getElem_mem _
    unfold spots at hm
    rw [List.mem_filter] at hm
    exact ⟨List.mem_range.mp hm.1, of_decide_eq_true hm.2⟩
theorem apE_len {e : Ed} (he : EdOk e) (l : List Nat) : (apE e l).length ≤ l.length + 1 := by
  cases e with
  | keep => simp [apE]
  | pre c => simp [apE]
  | app c => simp [apE]
  | at_ k p =>
    simp only [apE]
    cases hi : locP l p with
    | none => exact Nat.le_succ _
    | some i =>
      have h := (locO_lt he.2.2.1 hi).1
      have : (piece k (l.getD i 0)).length ≤ 2 := by cases k <;> simp [piece]
      simp only [List.length_append, List.length_take, List.length_drop]; omega
theorem flip_ab {c : Nat} (h : AB c) : AB (flipC c) := by rcases h with rfl | rfl <;> simp [AB, flipC]
theorem apE_ab {e : Ed} (he : EdOk e) {l : List Nat} (hl : ∀ c ∈ l, AB c) : ∀ c ∈ apE e l, AB c := by
  cases e with
  | keep => exact hl
  | pre c => intro x hx; simp only [apE, List.mem_cons] at hx; exact hx.elim (fun h => h ▸ he) (hl _)
  | app c => intro x hx; simp only [apE, List.mem_append, List.mem_singleton] at hx; exact hx.elim (hl _) (fun h => h ▸ he)
  | at_ k p =>
    simp only [apE]
    cases hi : locP l p with
    | none => exact hl
    | some i =>
      have h := (locO_lt he.2.2.1 hi).1
      have hg : AB (l.getD i 0) := by rw [List.getD_eq_getElem?_getD, List.getElem?_eq_getElem h]; exact hl _ (List.getElem_mem _)
      intro x hx
      simp only [List.mem_append] at hx
      rcases hx with hx | hx | hx
      · exact hl _ (List.mem_of_mem_take hx)
      · cases k with
        | bef c => simp only [piece, List.mem_cons, List.not_mem_nil, or_false] at hx; exact hx.elim (fun h => h ▸ he.1) (fun h => h ▸ hg)
        | aft c => simp only [piece, List.mem_cons, List.not_mem_nil, or_false] at hx; exact hx.elim (fun h => h ▸ hg) (fun h => h ▸ he.1)
        | rem => simp [piece] at hx
        | flp => simp only [piece, List.mem_cons, List.not_mem_nil, or_false] at hx; subst hx; exact flip_ab hg
      · exact hl _ (List.mem_of_mem_drop hx)
end Y
namespace Y
open PySem PySem.Spec PyProof.Rows L2
/-! ### exchanged edits -/
def exK : Kd → Kd
  | .bef c => .bef (flipC c)
  | .aft c => .aft (flipC c)
  | .rem => .rem
  | .flp => .flp
def exE : Ed → Ed
  | .keep => .keep
  | .pre c => .pre (flipC c)
  | .app c => .app (flipC c)
  | .at_ k p => .at_ (exK k) ⟨flipC p.c, p.n, p.fr⟩
theorem exE_ok {e : Ed} (h : EdOk e) : EdOk (exE e) := by
  cases e with
  | keep => exact h
  | pre c => exact flip_ab h
  | app c => exact flip_ab h
  | at_ k p =>
    refine ⟨?_, flip_ab h.2.1, h.2.2⟩
    cases k with
    | bef c => exact flip_ab h.1
    | aft c => exact flip_ab h.1
    | rem => trivial
    | flp => trivial
theorem flip_flip {c : Nat} (h : AB c) : flipC (flipC c) = c := by rcases h with rfl | rfl <;> rfl
theorem flip_eq {a b : Nat} (ha : AB a) (hb : AB b) : flipC a = flipC b ↔ a = b :=
  ⟨fun h => by rw [← flip_flip ha, h, flip_flip hb], fun h => by rw [h]⟩
theorem getD_map {l : List Nat} {i : Nat} (h : i < l.length) : (l.map flipC).getD i 0 = flipC (l.getD i 0) := by
  rw [List.getD_eq_getElem?_getD, List.getD_eq_getElem?_getD, List.getElem?_map, List.getElem?_eq_getElem h]; rfl
theorem getD_AB {l : List Nat} (h : ∀ c ∈ l, AB c) {i : Nat} (hi : i < l.length) : AB (l.getD i 0) := by
  rw [List.getD_eq_getElem?_getD, List.getElem?_eq_getElem hi]; exact h _ (List.getElem_mem _)
theorem spots_flip {l : List Nat} {c : Nat} (h : ∀ c ∈ l, AB c) (hc : AB c) : spots (l.map flipC) (flipC c) = spots l c := by
  unfold spots
  rw [List.length_map]
  refine List.filter_congr fun i hi => ?_
  have hi := List.mem_range.mp hi
  rw [getD_map hi]
  exact decide_eq_decide.mpr (flip_eq (getD_AB h hi) hc)
theorem loc_flip {l : List Nat} {p : Pl} (h : ∀ c ∈ l, AB c) (hc : AB p.c) : locP (l.map flipC) ⟨flipC p.c, p.n, p.fr⟩ = locP l p := by
  unfold locP locO
  simp only [spots_flip h hc]
theorem ap_flip {e : Ed} {l : List Nat} (he : EdOk e) (h : ∀ c ∈ l, AB c) : apE (exE e) (l.map flipC) = (apE e l).map flipC := by
  cases e with
  | keep => rfl
  | pre c => rfl
  | app c => simp [apE, exE]
  | at_ k p =>
    simp only [apE, exE, loc_flip h he.2.1]
    cases hi : locP l p with
    | none => rfl
    | some i =>
      have hlt := (locO_lt he.2.2.1 hi).1
      simp only [List.map_append, List.map_take, List.map_drop, getD_map hlt]
      congr 2
      cases k <;> simp [piece, exK]
theorem map_AB {l : List Nat} (h : ∀ c ∈ l, AB c) : ∀ c ∈ l.map flipC, AB c := fun c hc => by
  obtain ⟨x, hx, rfl⟩ := List.mem_map.mp hc
  exact flip_ab (h _ hx)
end Y
namespace Y
open PySem PySem.Spec PyProof.Rows L2
/-! ### mirrored edits -/
def miK : Kd → Kd
  | .bef c => .aft c
  | .aft c => .bef c
  | .rem => .rem
  | .flp => .flp
def miE : Ed → Ed
  | .keep => .keep
  | .pre c => .app c
  | .app c => .pre c
  | .at_ k p => .at_ (miK k) ⟨p.c, p.n, !p.fr⟩
theorem miE_ok {e : Ed} (h : EdOk e) : EdOk (miE e) := by
  cases e with
  | keep => exact h
  | pre c => exact h
  | app c => exact h
  | at_ k p =>
    refine ⟨?_, h.2.1, h.2.2⟩
    cases k <;> exact h.1
theorem getD_rev {l : List Nat} {i : Nat} (h : i < l.length) : l.reverse.getD i 0 = l.getD (l.length - 1 - i) 0 := by
  rw [List.getD_eq_getElem?_getD, List.getD_eq_getElem?_getD, List.getElem?_reverse h]
theorem spots_rev (l : List Nat) (c : Nat) : spots l.reverse c = ((spots l c).map fun i => l.length - 1 - i).reverse := by
  unfold spots
  rw [List.length_reverse, ← List.map_reverse, ← List.filter_reverse, ← PySem.W.krv_range, List.filter_map, List.map_map]
  have h1 : ((List.range l.length).filter ((fun i => decide (l.getD i 0 = c)) ∘ fun k => l.length - 1 - k)) = (List.range l.length).filter fun i => decide (l.reverse.getD i 0 = c) := by
    refine List.filter_congr fun i hi => ?_
    have hi := List.mem_range.mp hi
    simp only [Function.comp, getD_rev hi]
  rw [h1]
  have h2 : ∀ i ∈ (List.range l.length).filter (fun i => decide (l.reverse.getD i 0 = c)), ((fun i => l.length - 1 - i) ∘ fun k => l.length - 1 - k) i = id i := by
    intro i hi
    have hi := List.mem_range.mp (List.mem_filter.mp hi).1
    simp only [Function.comp, id]
    omega
  rw [List.map_congr_left h2, List.map_id]
theorem getD_revmap {s : List Nat} {f : Nat → Nat} {i : Nat} (h : i < s.length) : (s.map f).reverse.getD i 0 = f (s.getD (s.length - 1 - i) 0) := by
  rw [List.getD_eq_getElem?_getD, List.getElem?_reverse (by rw [List.length_map]; exact h), List.length_map, List.getElem?_map, List.getD_eq_getElem?_getD, List.getElem?_eq_getElem (by omega)]
  rfl
theorem loc_rev {l : List Nat} {c n : Nat} {fr : Bool} (h0 : 0 < n) : locO l.reverse c n (!fr) = (locO l c n fr).map fun i => l.length - 1 - i := by
  unfold locO
  rw [spots_rev]
  simp only [List.length_reverse, List.length_map]
  by_cases hn : (spots l c).length < n
  · rw [if_pos hn, if_pos hn]; rfl
  · rw [if_neg hn, if_neg hn]
    simp only [Option.map_some]
    congr 1
    cases fr with
    | true =>
      simp only [Bool.not_true, if_true]
      rw [if_neg (by decide), getD_revmap (by omega)]
      congr 2
      omega
    | false =>
      simp only [Bool.not_false, if_true]
      rw [if_neg (by decide), getD_revmap (by omega)]
      congr 2
      omega
theorem ap_rev {e : Ed} {l : List Nat} (he : EdOk e) : apE (miE e) l.reverse = (apE e l).reverse := by
  cases e with
  | keep => rfl
  | pre c => simp [apE, miE]
  | app c => simp [apE, miE]
  | at_ k p =>
    have hr : locP l.reverse ⟨p.c, p.n, !p.fr⟩ = (locP l p).map fun i => l.length - 1 - i := loc_rev he.2.2.1
    simp only [apE, miE, hr]
    cases hi : locP l p with
    | none => rfl
    | some i =>
      have hlt := (locO_lt he.2.2.1 hi).1
      simp only [Option.map_some]
      rw [getD_rev (by omega), show l.length - 1 - (l.length - 1 - i) = i by omega]
      simp only [List.reverse_append]
      rw [List.take_reverse, List.drop_reverse, show l.length - (l.length - 1 - i) = i + 1 by omega, show l.length - (l.length - 1 - i + 1) = i by omega, List.append_assoc]
      congr 2
      cases k <;> simp [piece, miK]
theorem rev_tx (l : List Nat) (h : l.length ≤ 16777216) : mRev (.str (tx l)) = some (.str (tx l.reverse)) := by
  unfold mRev
  simp only [tx_len]
  rw [if_pos (show l.length ≤ sizeN from h)]
  simp [revS, tx]
end Y
namespace Y
open PySem PySem.Spec PyProof.Rows L2
theorem x_dget2 {fa fb fc : EM} {S : SL} {w w1 w2 w3 : Bx} {kvs : List (Key × D)} {k z r : D} (ha : fa S w = .ok (.dct kvs) w1) (hb : fb S w1 = .ok k w2) (hc : fc S w2 = .ok z w3) (hm : mDGet2 (.dct kvs) k z = some r) : eDGet2 fa fb fc S w = .ok r w3 := by
  unfold eDGet2
  rw [ha, R.bind_ok, if_pos (show isDct (.dct kvs) = true from rfl), hb, R.bind_ok, hc, R.bind_ok, hm]; rfl
theorem dget_tab {t : List (Str × Str)} {a : Str} {z : D} : mDGet2 (dTab t) (.str a) z = some (match tabGet t a with | some v => .str v | none => z) := by
  show some ((dGet (t.map fun p => (Sum.inr p.1, D.str p.2)) (Sum.inr a)).getD z) = _
  congr 1
  induction t with
  | nil => rfl
  | cons p t ih =>
    unfold dGet tabGet at ih ⊢
    rw [List.map_cons]
    by_cases e : p.1 = a
    · rw [List.find?_cons_of_pos (by simp [e]), List.find?_cons_of_pos (by simp [e])]; rfl
    · rw [List.find?_cons_of_neg (by simpa using e), List.find?_cons_of_neg (by simpa using e)]; exact ih
/-! ### like data are told to be the same -/
def plainD : Nat → D → Prop
  | 0, _ => False
  | n + 1, d => match d with
    | .non => True
    | .bl _ => True
    | .int _ => True
    | .str _ => True
    | .lst a => a.length ≤ 16777216 ∧ ∀ x ∈ a, plainD n x
    | .tup a => a.length ≤ 16777216 ∧ ∀ x ∈ a, plainD n x
    | _ => False
theorem zip_all (f : D → D → Bool) : ∀ (l : List D), (∀ x ∈ l, f x x = true) → ((l.zip l).all fun p => f p.1 p.2) = true
  | [], _ => rfl
  | a :: l, h => by
    rw [List.zip_cons_cons, List.all_cons, Bool.and_eq_true]
    exact ⟨h a (List.mem_cons_self ..), zip_all f l fun x hx => h x (List.mem_cons_of_mem _ hx)⟩
theorem same_refl : ∀ (n : Nat) (d : D), plainD n d → sameD n d d = true
  | 0, _, h => h.elim
  | n + 1, d, h => by
    have key : ∀ a : List D, a.length ≤ 16777216 ∧ (∀ x ∈ a, plainD n x) → ((a.length == a.length && decide (a.length ≤ sizeN)) && (a.zip a).all fun p => sameD n p.1 p.2) = true := fun a h => by
      rw [Bool.and_eq_true, Bool.and_eq_true]
      exact ⟨⟨beq_self_eq_true _, decide_eq_true h.1⟩, zip_all _ a fun x hx => same_refl n x (h.2 x hx)⟩
    cases d with
    | non => rfl
    | bl b => simp [sameD]
    | int b => simp [sameD]
    | str b => simp [sameD]
    | lst a => rw [sameD]; exact key a h
    | tup a => rw [sameD]; exact key a h
    | _ => exact h.elim
theorem plain_mono : ∀ {n m : Nat} {d : D}, n ≤ m → plainD n d → plainD m d
  | 0, _, _, _, h => h.elim
  | n + 1, 0, _, h, _ => absurd h (Nat.not_succ_le_zero n)
  | n + 1, m + 1, d, h, p => by
    cases d with
    | lst a => exact ⟨p.1, fun x hx => plain_mono (Nat.le_of_succ_le_succ h) (p.2 x hx)⟩
    | tup a => exact ⟨p.1, fun x hx => plain_mono (Nat.le_of_succ_le_succ h) (p.2 x hx)⟩
    | non => trivial
    | bl _ => trivial
    | int _ => trivial
    | str _ => trivial
    | _ => exact p.elim
theorem plain_nil {n : Nat} : ∀ x ∈ ([] : List D), plainD n x := fun _ h => nomatch h
theorem plain_cons {n : Nat} {d : D} {ds : List D} (h : plainD n d) (t : ∀ x ∈ ds, plainD n x) : ∀ x ∈ d :: ds, plainD n x := fun x hx => by
  rcases List.mem_cons.mp hx with rfl | z
  · exact h
  · exact t x z
theorem plain_ed (e : Ed) (n : Nat) : plainD (n + 3) (edD e) := by
  cases e with
  | keep => exact ⟨lsz rfl, plain_cons trivial plain_nil⟩
  | pre c => exact ⟨lsz rfl, plain_cons trivial (plain_cons trivial plain_nil)⟩
  | app c => exact ⟨lsz rfl, plain_cons trivial (plain_cons trivial plain_nil)⟩
  | at_ k p =>
    have hp : plainD (n + 2) (plD p) := ⟨lsz rfl, plain_cons trivial (plain_cons trivial (plain_cons trivial plain_nil))⟩
    cases k with
    | bef c => exact ⟨lsz rfl, plain_cons trivial (plain_cons hp (plain_cons trivial plain_nil))⟩
    | aft c => exact ⟨lsz rfl, plain_cons trivial (plain_cons hp (plain_cons trivial plain_nil))⟩
    | rem => exact ⟨lsz rfl, plain_cons trivial (plain_cons hp plain_nil)⟩
    | flp => exact ⟨lsz rfl, plain_cons trivial (plain_cons hp plain_nil)⟩
theorem x_same' {d : D} {w : Bx} (h : plainD 8 d) : mSame 8 [d, d] w = .ok (.bl true) w := x_same (same_refl 8 d h)
end Y
namespace Y
open PySem PySem.Spec PyProof.Rows L2
/-! ### data of which in and == are known -/
def nice1 (d : D) : Prop := ∃ p, shp d = some p
def nice2 (d : D) : Prop := nice1 d ∧ ∀ es, d = .tup es → ∀ y ∈ es, nice1 y
def strEq (a : Str) : D → Bool
  | .str s => decide (s = a)
  | _ => false
theorem eqv_strL {a : Str} {d : D} {p : PyData} (h : toPy d = some p) : PyData.eqv (.str a) p = strEq a d := by
  cases d with
  | non => rw [toPy] at h; cases h; rfl
  | bl b => rw [toPy] at h; cases h; rfl
  | int b => rw [toPy] at h; cases h; rfl
  | str b => rw [toPy] at h; cases h; rw [PyData.eqv, Bool.eq_iff_iff, beq_iff_eq, strEq, decide_eq_true_iff]; exact eq_comm
  | lst ds => rw [toPy] at h; obtain ⟨ps, _, e⟩ := Option.map_eq_some_iff.mp h; subst e; rfl
  | tup ds => rw [toPy] at h; obtain ⟨ps, _, e⟩ := Option.map_eq_some_iff.mp h; subst e; rfl
  | _ => rw [toPy] at h; cases h
theorem eqv_strR {a : Str} {d : D} {p : PyData} (h : toPy d = some p) : PyData.eqv p (.str a) = strEq a d := by
  cases d with
  | non => rw [toPy] at h; cases h; rfl
  | bl b => rw [toPy] at h; cases h; rfl
  | int b => rw [toPy] at h; cases h; rfl
  | str b => rw [toPy] at h; cases h; rw [PyData.eqv, Bool.eq_iff_iff]; simp [strEq]
  | lst ds => rw [toPy] at h; obtain ⟨ps, _, e⟩ := Option.map_eq_some_iff.mp h; subst e; rfl
  | tup ds => rw [toPy] at h; obtain ⟨ps, _, e⟩ := Option.map_eq_some_iff.mp h; subst e; rfl
  | _ => rw [toPy] at h; cases h
theorem in_gen {d : D} {p : PyData} {ds : List D} {ps : List PyData} (h : shp d = some p) (hq : shp (.tup ds) = some (.tuple ps)) : mIn d (.tup ds) = some (.bl (ps.any fun z => PyData.eqv z p)) := by
  have e : inB d (.tup ds) = some (ps.any fun z => PyData.eqv z p) := by
    cases d <;> simp only [inB, h, hq, Option.bind_some]
  unfold mIn
  rw [e]; rfl
theorem shp_str2 (a b : Str) (h : SeqAt.shaped (.tuple [.str a, .str b]) = true) : shp (.tup [.str a, .str b]) = some (.tuple [.str a, .str b]) := by
  unfold shp
  have : toPy (.tup [.str a, .str b]) = some (.tuple [.str a, .str b]) := by simp [toPy, toPys]
  rw [this, Option.bind_some, if_pos h]
theorem in_str2 {d : D} {a b : Str} (h : nice1 d) (hs : SeqAt.shaped (.tuple [.str a, .str b]) = true) : mIn d (.tup [.str a, .str b]) = some (.bl (strEq a d || strEq b d)) := by
  obtain ⟨p, h⟩ := h
  rw [in_gen h (shp_str2 a b hs)]
  have := (shp_some h).1
  simp only [List.any_cons, List.any_nil, Bool.or_false, eqv_strL this]
theorem eq_str {d : D} {a : Str} (h : nice1 d) (hs : SeqAt.shaped (.str a) = true) : mEq d (.str a) = some (.bl (strEq a d)) := by
  obtain ⟨p, h⟩ := h
  have t := (shp_some h).1
  have ha : shp (.str a) = some (.str a) := by unfold shp; rw [toPy, Option.bind_some, if_pos hs]
  unfold mEq
  cases d with
  | str b => simp only [eqB, Option.map_some, strEq]
  | _ => simp only [eqB, h, ha, Option.bind_some, Option.map_some, eqv_strR t]
def isSym (d : D) : Bool := strEq "a" d || strEq "b" d
def isNum : D → Bool
  | .int i => decide (i = 1) || decide (i = 2)
  | _ => false
def isPl : D → Bool
  | .tup [a, b, c] => isSym a && (isNum b && (strEq "front" c || strEq "back" c))
  | _ => false
def isEdB (b1 b2 b3 b4 : Bool) (r : List D) : Bool :=
  if b1 then (match r with | [] => true | _ => false)
  else if b2 then (match r with | [s] => isSym s | _ => false)
  else if b3 then (match r with | [p, s] => isPl p && isSym s | _ => false)
  else if b4 then (match r with | [p] => isPl p | _ => false)
  else false
def isEdD : List D → Bool
  | [] => false
  | w :: r => isEdB (strEq "keep" w) (strEq "prepend" w || strEq "append" w) (strEq "before" w || strEq "after" w) (strEq "remove" w || strEq "flip" w) r
theorem nice_str (s : Str) (h : SeqAt.shaped (.str s) = true) : nice1 (.str s) := ⟨.str s, by unfold shp; rw [toPy, Option.bind_some, if_pos h]⟩
theorem nice2_of {d : D} (h : nice1 d) (hn : ∀ es, d ≠ .tup es) : nice2 d := ⟨h, fun es e => absurd e (hn es)⟩
/-- number in (1, 2) -/
def in12 : D → Bool
  | .int i => decide (i = 1) || decide (i = 2)
  | .bl b => b
  | _ => false
theorem in_12 {d : D} (h : nice1 d) : mIn d (.tup [.int 1, .int 2]) = some (.bl (in12 d)) := by
  obtain ⟨p, h⟩ := h
  have hq : shp (.tup [.int 1, .int 2]) = some (.tuple [.int 1, .int 2]) := by
    unfold shp
    have : toPy (.tup [.int 1, .int 2]) = some (.tuple [.int 1, .int 2]) := by simp [toPy, toPys]
    rw [this, Option.bind_some, if_pos (by decide +kernel)]
  rw [in_gen h hq]
  have t := (shp_some h).1
  congr 2
  cases d with
  | non => rw [toPy] at t; cases t; rfl
  | bl b => rw [toPy] at t; cases t; cases b <;> rfl
  | int b =>
    rw [toPy] at t; cases t
    have c : ∀ k : Int, (k == b) = decide (b = k) := fun k => by rw [Bool.eq_iff_iff, beq_iff_eq, decide_eq_true_iff]; exact eq_comm
    simp only [List.any_cons, List.any_nil, Bool.or_false, PyData.eqv, in12, c]
  | str b => rw [toPy] at t; cases t; rfl
  | lst ds => rw [toPy] at t; obtain ⟨ps, _, e⟩ := Option.map_eq_some_iff.mp t; subst e; rfl
  | tup ds => rw [toPy] at t; obtain ⟨ps, _, e⟩ := Option.map_eq_some_iff.mp t; subst e; rfl
  | _ => rw [toPy] at t; cases t
theorem isi_of {T a : String} {d : D} (h : tyN d = some a) : mIsi T d = some (.bl (isSub a T)) := by unfold mIsi; rw [h]; rfl
theorem nice_ty {d : D} (h : nice1 d) : ∃ a, tyN d = some a := by
  obtain ⟨p, h⟩ := h
  have t := (shp_some h).1
  cases d with
  | box => rw [toPy] at t; cases t
  | obj _ _ => rw [toPy] at t; cases t
  | dct _ => rw [toPy] at t; cases t
  | cel _ => rw [toPy] at t; cases t
  | _ => exact ⟨_, rfl⟩
/-! ### data by its depth -/
def niceN : Nat → D → Prop
  | _, .non => True
  | _, .bl _ => True
  | _, .int _ => True
  | _, .str s => PyData.strOk s = true
  | n + 1, .lst ds => ∀ x ∈ ds, niceN n x
  | n + 1, .tup ds => ∀ x ∈ ds, niceN n x
  | _, _ => False
mutual
theorem nice_py : ∀ {d : D} {n : Nat}, niceN n d → ∃ p, toPy d = some p ∧ p.canLay0 = true ∧ p.depth ≤ n
  | .non, n, _ => ⟨.none, by rw [toPy], rfl, Nat.zero_le _⟩
  | .bl b, n, _ => ⟨.bool b, by rw [toPy], rfl, Nat.zero_le _⟩
  | .int b, n, _ => ⟨.int b, by rw [toPy], rfl, Nat.zero_le _⟩
  | .str s, n, h => ⟨.str s, by rw [toPy], (by unfold niceN at h; rw [PyData.canLay0]; exact h), Nat.zero_le _⟩
  | .lst ds, 0, h => by simp [niceN] at h
  | .tup ds, 0, h => by simp [niceN] at h
  | .lst ds, n + 1, h => by
    obtain ⟨ps, e1, e2, e3⟩ := nice_pys (ds := ds) (n := n) (by unfold niceN at h; exact h)
    exact ⟨.list ps, by rw [toPy, e1]; rfl, by rw [PyData.canLay0]; exact e2, by rw [PyData.depth]; omega⟩
  | .tup ds, n + 1, h => by
    obtain ⟨ps, e1, e2, e3⟩ := nice_pys (ds := ds) (n := n) (by unfold niceN at h; exact h)
    exact ⟨.tuple ps, by rw [toPy, e1]; rfl, by rw [PyData.canLay0]; exact e2, by rw [PyData.depth]; omega⟩
  | .box, n, h => by cases n <;> simp [niceN] at h
  | .obj _ _, n, h => by cases n <;> simp [niceN] at h
  | .dct _, n, h => by cases n <;> simp [niceN] at h
  | .cel _, n, h => by cases n <;> simp [niceN] at h
theorem nice_pys : ∀ {ds : List D} {n : Nat}, (∀ x ∈ ds, niceN n x) → ∃ ps, toPys ds = some ps ∧ PyData.canLayAll0 ps = true ∧ PyData.depthAll ps ≤ n
  | [], n, _ => ⟨[], by rw [toPys], by rw [PyData.canLayAll0], Nat.zero_le _⟩
  | d :: ds, n, h => by
    obtain ⟨p, a1, a2, a3⟩ := nice_py (h d (List.mem_cons_self ..))
    obtain ⟨ps, e1, e2, e3⟩ := nice_pys fun x hx => h x (List.mem_cons_of_mem _ hx)
    refine ⟨p :: ps, by rw [toPys, a1, e1]; rfl, by rw [PyData.canLayAll0, a2, e2]; rfl, ?_⟩
    rw [PyData.depthAll]
    exact Nat.max_le.mpr ⟨a3, e3⟩
end
theorem nice_shp {d : D} {n : Nat} (h : niceN n d) (hn : n ≤ 64) : ∃ p, toPy d = some p ∧ shp d = some p := by
  obtain ⟨p, a1, a2, a3⟩ := nice_py h
  refine ⟨p, a1, ?_⟩
  unfold shp
  rw [a1, Option.bind_some, if_pos]
  unfold SeqAt.shaped
  rw [a2, Bool.true_and]
  exact decide_eq_true (Nat.le_trans a3 hn)
theorem nice1_of {d : D} {n : Nat} (h : niceN n d) (hn : n ≤ 64 := by decide) : nice1 d := let ⟨p, _, e⟩ := nice_shp h hn; ⟨p, e⟩
theorem niceN_tup {n : Nat} {ds : List D} (h : niceN n (.tup ds)) : ∀ x ∈ ds, niceN (n - 1) x := by
  cases n with
  | zero => simp [niceN] at h
  | succ n => unfold niceN at h; exact h
theorem niceN_lst {n : Nat} {ds : List D} (h : niceN n (.lst ds)) : ∀ x ∈ ds, niceN (n - 1) x := by
  cases n with
  | zero => simp [niceN] at h
  | succ n => unfold niceN at h; exact h
theorem nice2_ofN {d : D} {n : Nat} (h : niceN n d) (hn : n ≤ 64 := by decide) : nice2 d :=
  ⟨nice1_of h hn, fun es e y hy => by subst e; exact nice1_of (niceN_tup h y hy) (by omega)⟩
theorem nice_mono : ∀ {n m : Nat} {d : D}, n ≤ m → niceN n d → niceN m d := by
  intro n
  induction n with
  | zero => intro m d _ h; cases d <;> first | (simp only [niceN] at h ⊢; try exact h) | (simp [niceN] at h)
  | succ n ih =>
    intro m d hm h
    obtain ⟨m, rfl⟩ : ∃ k, m = k + 1 := ⟨m - 1, by omega⟩
    cases d with
    | lst ds => unfold niceN at h ⊢; exact fun x hx => ih (by omega) (h x hx)
    | tup ds => unfold niceN at h ⊢; exact fun x hx => ih (by omega) (h x hx)
    | str s => unfold niceN at h ⊢; exact h
    | non => simp [niceN]
    | bl _ => simp [niceN]
    | int _ => simp [niceN]
    | _ => simp [niceN] at h
theorem eq_tup_nil {a : D} {r : List D} {n : Nat} (h : ∀ x ∈ a :: r, niceN n x) (hn : n < 64) : mEq (.tup (a :: r)) (.tup []) = some (.bl false) := by
  have h2 : niceN (n + 1) (.tup (a :: r)) := by unfold niceN; exact h
  obtain ⟨p, e1, e2⟩ := nice_shp h2 hn
  have e3 : shp (.tup []) = some (.tuple []) := by
    unfold shp
    have : toPy (.tup []) = some (.tuple []) := by simp [toPy, toPys]
    rw [this, Option.bind_some, if_pos (by decide +kernel)]
  unfold mEq
  simp only [eqB, e2, e3, Option.bind_some, Option.map_some]
  obtain ⟨ps, f1, f2, f3⟩ := nice_pys h
  rw [toPy, f1] at e1
  cases e1
  rw [toPys] at f1
  obtain ⟨p, _, f1⟩ := Option.bind_eq_some_iff.mp f1
  obtain ⟨qs, _, f1⟩ := Option.bind_eq_some_iff.mp f1
  cases f1
  rfl
theorem cut_drop {α : Type} (xs : List α) (i : Nat) : cut xs (some (i : Int)) none = xs.drop i := by
  unfold cut
  rw [HT.sIx_nat, HT.sIx_none]
  by_cases h : i ≤ xs.length
  · rw [Nat.min_eq_left h, List.take_of_length_le (by simp)]
  · rw [Nat.min_eq_right (by omega), List.drop_eq_nil_of_le (Nat.le_refl _), List.drop_eq_nil_of_le (by omega), List.take_nil]
theorem cut_take {α : Type} (xs : List α) (i : Nat) : cut xs none (some (i : Int)) = xs.take i := by
  unfold cut
  rw [HT.sIx_nat, HT.sIx_none, List.drop_zero, Nat.sub_zero]
  by_cases h : i ≤ xs.length
  · rw [Nat.min_eq_left h]
  · rw [Nat.min_eq_right (by omega), List.take_of_length_le (Nat.le_refl _), List.take_of_length_le (by omega)]
theorem sl_tl {a : D} {r : List D} : mSl (.tup (a :: r)) (some 1) none = some (.tup r) := by
  show some (D.tup (cut (a :: r) (some ((1 : Nat) : Int)) none)) = _
  rw [cut_drop]; rfl
theorem slT_drop (ds : List D) (i : Nat) : mSl (.tup ds) (some (i : Int)) none = some (.tup (ds.drop i)) := by
  show some (D.tup (cut ds (some (i : Int)) none)) = _
  rw [cut_drop]
theorem slT_take (ds : List D) (i : Nat) : mSl (.tup ds) none (some (i : Int)) = some (.tup (ds.take i)) := by
  show some (D.tup (cut ds none (some (i : Int)))) = _
  rw [cut_take]
theorem slL_drop (ds : List D) (i : Nat) : mSl (.lst ds) (some (i : Int)) none = some (.lst (ds.drop i)) := by
  show some (D.lst (cut ds (some (i : Int)) none)) = _
  rw [cut_drop]
theorem slL_take (ds : List D) (i : Nat) : mSl (.lst ds) none (some (i : Int)) = some (.lst (ds.take i)) := by
  show some (D.lst (cut ds none (some (i : Int)))) = _
  rw [cut_take]
theorem addT {a b : List D} (h : a.length + b.length ≤ 16777216) : mAdd (.tup a) (.tup b) = some (.tup (a ++ b)) := by
  unfold mAdd
  simp only
  rw [if_pos (show a.length + b.length ≤ sizeN from h)]
theorem addL {a b : List D} (h : a.length + b.length ≤ 16777216) : mAdd (.lst a) (.lst b) = some (.lst (a ++ b)) := by
  unfold mAdd
  simp only
  rw [if_pos (show a.length + b.length ≤ sizeN from h)]
end Y
namespace Y
open PySem PySem.Spec PyProof.Rows L2
/-! ### traces, plainly -/
structure Pc where
  b : List Nat
  s : List Nat
  a : List Nat
def Pc.all (p : Pc) : List Nat := p.b ++ p.s ++ p.a
def Pc.nil : Pc := ⟨[], [], []⟩
def wr (ps : List Pc) : List Nat := (ps.map Pc.all).flatten
theorem wr_nil : wr [] = [] := rfl
theorem wr_cons (p : Pc) (ps : List Pc) : wr (p :: ps) = p.all ++ wr ps := rfl
theorem wr_app (a b : List Pc) : wr (a ++ b) = wr a ++ wr b := by simp [wr]
structure Tr where
  src : List Nat
  head : List Nat
  ps : List Pc
  tail : List Nat
def Tr.res (t : Tr) : List Nat := t.head ++ wr t.ps ++ t.tail
structure Tr.Ok (t : Tr) : Prop where
  len : t.ps.length = t.src.length
  one : ∀ p ∈ t.ps, p.s.length ≤ 1
def one1 (c : Nat) : Pc := ⟨[], [c], []⟩
def stillT (l : List Nat) : Tr := ⟨l, [], l.map one1, []⟩
theorem wr_one (l : List Nat) : wr (l.map one1) = l := by
  induction l with
  | nil => rfl
  | cons c l ih => rw [List.map_cons, wr_cons, ih]; rfl
theorem still_res (l : List Nat) : (stillT l).res = l := by
  unfold Tr.res stillT
  simp only [wr_one, List.nil_append, List.append_nil]
theorem still_ok (l : List Nat) : (stillT l).Ok := ⟨by simp [stillT], fun p hp => by
  obtain ⟨c, _, rfl⟩ := List.mem_map.mp hp
  simp [one1]⟩
def chP (k : Kd) (c : Nat) : Pc := match k with
  | .bef d => ⟨[d], [c], []⟩
  | .aft d => ⟨[], [c], [d]⟩
  | .rem => ⟨[], [], []⟩
  | .flp => ⟨[], [flipC c], []⟩
def atPs (l : List Nat) (k : Kd) : Option Nat → List Pc
  | none => l.map one1
  | some i => (l.map one1).set i (chP k (l.getD i 0))
def edT (e : Ed) (l : List Nat) : Tr := match e with
  | .keep => stillT l
  | .pre c => ⟨l, [c], l.map one1, []⟩
  | .app c => ⟨l, [], l.map one1, [c]⟩
  | .at_ k p => ⟨l, [], atPs l k (locP l p), []⟩
theorem wr_set (ps : List Pc) (i : Nat) (q : Pc) (h : i < ps.length) : wr (ps.set i q) = wr (ps.take i) ++ q.all ++ wr (ps.drop (i + 1)) := by
  rw [List.set_eq_take_append_cons_drop, if_pos h, wr_app, wr_cons, List.append_assoc]
theorem ed_src (e : Ed) (l : List Nat) : (edT e l).src = l := by
  cases e <;> rfl
theorem ed_ok (e : Ed) (l : List Nat) : (edT e l).Ok := by
  cases e with
  | keep => exact still_ok l
  | pre c => exact ⟨(still_ok l).len, (still_ok l).one⟩
  | app c => exact ⟨(still_ok l).len, (still_ok l).one⟩
  | at_ k p =>
    cases h : locP l p with
    | none => exact ⟨by simp [edT, h, atPs], fun q hq => by simp only [edT, h, atPs] at hq; exact (still_ok l).one q hq⟩
    | some i =>
      refine ⟨by simp [edT, h, atPs], fun q hq => ?_⟩
      simp only [edT, h, atPs] at hq
      rcases List.mem_or_eq_of_mem_set hq with hq | rfl
      · exact (still_ok l).one q hq
      · cases k <;> simp [chP]
theorem ed_res {e : Ed} (he : EdOk e) (l : List Nat) : (edT e l).res = apE e l := by
  cases e with
  | keep => exact still_res l
  | pre c => simp [Tr.res, edT, stillT, wr_one, apE]
  | app c => simp [Tr.res, edT, stillT, wr_one, apE]
  | at_ k p =>
    unfold apE
    cases h : locP l p with
    | none => simp [Tr.res, edT, h, atPs, wr_one]
    | some i =>
      have hi := (locO_lt he.2.2.1 h).1
      simp only [Tr.res, edT, h, atPs]
      show ([] ++ wr ((l.map one1).set i (chP k (l.getD i 0)))) ++ [] = _
      rw [List.nil_append, List.append_nil, wr_set _ _ _ (by simpa using hi), ← List.map_take, ← List.map_drop, wr_one, wr_one]
      cases k <;> simp [chP, Pc.all, piece]
/-! ### one trace behind another -/
def jnStep (ps : List Pc) (at_ : Nat) (p : Pc) : Pc :=
  ⟨wr ((ps.drop at_).take p.b.length) ++ (if p.s = [] then Pc.nil else ps.getD (at_ + p.b.length) Pc.nil).b, (if p.s = [] then Pc.nil else ps.getD (at_ + p.b.length) Pc.nil).s,
    (if p.s = [] then Pc.nil else ps.getD (at_ + p.b.length) Pc.nil).a ++ wr ((ps.drop (at_ + p.b.length + p.s.length)).take p.a.length)⟩
def jnP (ps : List Pc) : Nat → List Pc → List Pc
  | _, [] => []
  | at_, p :: r => jnStep ps at_ p :: jnP ps (at_ + p.all.length) r
def jnT (one other : Tr) : Tr := ⟨one.src, other.head ++ wr (other.ps.take one.head.length), jnP other.ps one.head.length one.ps, wr (other.ps.drop (one.head.length + (wr one.ps).length)) ++ other.tail⟩
theorem jn_len (ps : List Pc) : ∀ (qs : List Pc) (n : Nat), (jnP ps n qs).length = qs.length
  | [], _ => rfl
  | q :: qs, n => congrArg (· + 1) (jn_len ps qs _)
theorem all_len (p : Pc) : p.all.length = p.b.length + p.s.length + p.a.length := by simp [Pc.all, Nat.add_assoc]
theorem getD_one {ps : List Pc} (h : ∀ p ∈ ps, p.s.length ≤ 1) (i : Nat) : (ps.getD i Pc.nil).s.length ≤ 1 := by
  rw [List.getD_eq_getElem?_getD]
  cases q : ps[i]? with
  | none => simp [Pc.nil]
  | some p => exact h p (List.mem_of_getElem? q)
theorem step_one {ps : List Pc} (h : ∀ p ∈ ps, p.s.length ≤ 1) (n : Nat) (p : Pc) : (jnStep ps n p).s.length ≤ 1 := by
  show (if p.s = [] then Pc.nil else ps.getD (n + p.b.length) Pc.nil).s.length ≤ 1
  split
  · simp [Pc.nil]
  · exact getD_one h _
theorem jn_one {ps : List Pc} (h : ∀ p ∈ ps, p.s.length ≤ 1) : ∀ (qs : List Pc) (n : Nat), ∀ p ∈ jnP ps n qs, p.s.length ≤ 1
  | [], _, p, hp => nomatch hp
  | q :: qs, n, p, hp => by
    rcases List.mem_cons.mp hp with rfl | hp
    · exact step_one h n q
    · exact jn_one h qs _ p hp
theorem wr_seg (ps : List Pc) (a b n : Nat) : wr ((ps.drop n).take (a + b)) = wr ((ps.drop n).take a) ++ wr ((ps.drop (n + a)).take b) := by
  rw [List.take_add, wr_app, List.drop_drop]
theorem step_all {ps : List Pc} {n : Nat} {p : Pc} (hs : p.s.length ≤ 1) (hn : n + p.all.length ≤ ps.length) : (jnStep ps n p).all = wr ((ps.drop n).take p.all.length) := by
  rw [all_len] at hn ⊢
  rw [Nat.add_assoc, wr_seg, wr_seg]
  unfold Pc.all jnStep
  simp only
  by_cases h : p.s = []
  · rw [if_pos h]
    simp [Pc.nil, h, wr_nil]
  · rw [if_neg h]
    have h1 : p.s.length = 1 := by
      have := List.length_pos_iff.mpr h
      omega
    have hi : n + p.b.length < ps.length := by omega
    rw [h1, List.drop_eq_getElem_cons hi, List.take_succ_cons, List.take_zero, List.getD_eq_getElem?_getD, List.getElem?_eq_getElem hi, Option.getD_some, wr_cons, wr_nil]
    simp [Pc.all]
theorem jn_wr (ps : List Pc) : ∀ (qs : List Pc) (n : Nat), (∀ q ∈ qs, q.s.length ≤ 1) → n + (wr qs).length ≤ ps.length → wr (jnP ps n qs) = wr ((ps.drop n).take (wr qs).length)
  | [], n, _, _ => by simp [jnP, wr_nil]
  | q :: qs, n, h1, h2 => by
    rw [wr_cons, List.length_append] at h2 ⊢
    rw [jnP, wr_cons, step_all (h1 q (List.mem_cons_self ..)) (by omega), jn_wr ps qs _ (fun p hp => h1 p (List.mem_cons_of_mem _ hp)) (by omega), wr_seg]
theorem jn_res {one other : Tr} (h1 : one.Ok) (h2 : other.Ok) (e : other.src = one.res) : (jnT one other).res = other.res := by
  have hl : other.ps.length = one.head.length + (wr one.ps).length + one.tail.length := by
    rw [h2.len, e]; simp [Tr.res, Nat.add_assoc]
  have key : wr other.ps = wr (other.ps.take one.head.length) ++ wr ((other.ps.drop one.head.length).take (wr one.ps).length) ++ wr (other.ps.drop (one.head.length + (wr one.ps).length)) := by
    conv => lhs; rw [← List.take_append_drop one.head.length other.ps, ← List.take_append_drop (wr one.ps).length (other.ps.drop one.head.length)]
    rw [wr_app, wr_app, List.drop_drop, List.append_assoc]
  unfold Tr.res
  show (other.head ++ wr (other.ps.take one.head.length)) ++ wr (jnP other.ps one.head.length one.ps) ++ (wr (other.ps.drop (one.head.length + (wr one.ps).length)) ++ other.tail) = _
  rw [jn_wr _ _ _ h1.one (by omega), key]
  simp only [List.append_assoc]
theorem jn_ok {one other : Tr} (h1 : one.Ok) (h2 : other.Ok) : (jnT one other).Ok := ⟨by show (jnP _ _ _).length = _; rw [jn_len]; exact h1.len, jn_one h2.one _ _⟩
/-! ### scripts -/
def runT : Tr → List Ed → Tr
  | t, [] => t
  | t, e :: es => runT (jnT t (edT e t.res)) es
def apEs : List Ed → List Nat → List Nat
  | [], l => l
  | e :: es, l => apEs es (apE e l)
theorem apEs_app (a b : List Ed) (l : List Nat) : apEs (a ++ b) l = apEs b (apEs a l) := by
  induction a generalizing l with
  | nil => rfl
  | cons e a ih => exact ih _
theorem run_step {t : Tr} {e : Ed} (ht : t.Ok) (he : EdOk e) : (jnT t (edT e t.res)).Ok ∧ (jnT t (edT e t.res)).res = apE e t.res :=
  ⟨jn_ok ht (ed_ok e _), by rw [jn_res ht (ed_ok e _) (ed_src e _), ed_res he]⟩
theorem run_ok : ∀ (es : List Ed) (t : Tr), t.Ok → (∀ e ∈ es, EdOk e) → (runT t es).Ok ∧ (runT t es).res = apEs es t.res ∧ (runT t es).src = t.src
  | [], t, h, _ => ⟨h, rfl, rfl⟩
  | e :: es, t, h, he => by
    obtain ⟨a, b⟩ := run_step h (he e (List.mem_cons_self ..))
    obtain ⟨c, d, f⟩ := run_ok es _ a fun x hx => he x (List.mem_cons_of_mem _ hx)
    refine ⟨c, ?_, f⟩
    show (runT (jnT t (edT e t.res)) es).res = _
    rw [d, b]; rfl
theorem apEs_len (es : List Ed) : ∀ (l : List Nat), (∀ e ∈ es, EdOk e) → (apEs es l).length ≤ l.length + es.length := by
  induction es with
  | nil => intro l _; exact Nat.le_refl _
  | cons e es ih =>
    intro l h
    have h1 := apE_len (h e (List.mem_cons_self ..)) l
    have h2 := ih (apE e l) fun x hx => h x (List.mem_cons_of_mem _ hx)
    show (apEs es (apE e l)).length ≤ _
    rw [List.length_cons]
    omega
theorem apEs_ab (es : List Ed) : ∀ {l : List Nat}, (∀ e ∈ es, EdOk e) → (∀ c ∈ l, AB c) → ∀ c ∈ apEs es l, AB c := by
  induction es with
  | nil => intro l _ h; exact h
  | cons e es ih => intro l h hl; exact ih (fun x hx => h x (List.mem_cons_of_mem _ hx)) (apE_ab (h e (List.mem_cons_self ..)) hl)
/-! ### traces and scripts as data -/
def pcD (p : Pc) : D := .tup [.str (tx p.b), .str (tx p.s), .str (tx p.a)]
def trD (t : Tr) : D := .obj "Trace" [("source", .str (tx t.src)), ("front", .str (tx t.head)), ("parts", .lst (t.ps.map pcD)), ("back", .str (tx t.tail))]
def scD (es : List Ed) : D := .obj "Script" [("kept", .lst (es.map edD))]
end Y
namespace Y
open PySem PySem.Spec PyProof.Rows L2
section
variable {S S1 : SL} {w w1 w2 w3 : Bx} {d e z : D} {ds es : List D} {fa fb fo : EM} {fs : AM} {c m : Str} {mm : List D → Bx → R D}
theorem x_make {n : Nat → Bool} {mi : List D → Bx → R (List (Str × D))} {fl : List (Str × D)} (ha : fs S w = .ok ds w1) (hn : n ds.length = true) (hm : mi ds w1 = .ok fl w2) : eMake c n mi fs S w = .ok (.obj c fl) w2 := by
  unfold eMake; rw [ha, R.bind_ok, if_pos hn, hm]; rfl
theorem x_star (h : fa S w = .ok d w1) (hs : seqD d = some ds) : aStar fa S w = .ok ds w1 := by unfold aStar; rw [h, R.bind_ok, hs]; rfl
theorem x_prop (ha : fo S w = .ok d w1) (hc : isCls c d = true) (hm : mm [d] w1 = .ok z w2) : eProp c mm fo S w = .ok z w2 := by
  unfold eProp; rw [ha, R.bind_ok, if_pos hc, hm]; rfl
theorem x_meth {n : Nat} {r : R D} (ha : fo S w = .ok d w1) (ho : isObj c m d = true) (hb : fs S w1 = .ok ds w2) (hn : ds.length + 1 = n) (hm : mm (d :: ds) w2 = r) : eMeth c m n mm fo fs S w = r := by
  unfold eMeth; rw [ha, R.bind_ok, if_pos ho, hb, R.bind_ok, if_pos hn, hm]
theorem x_callO {n : Nat} {r : R D} (ha : fo S w = .ok d w1) (ho : isCls c d = true) (hb : fs S w1 = .ok ds w2) (hn : ds.length + 1 = n) (hm : mm (d :: ds) w2 = r) : eCallO c n mm fo fs S w = r := by
  unfold eCallO; rw [ha, R.bind_ok, if_pos ho, hb, R.bind_ok, if_pos hn, hm]
theorem x_own {r : R D} (ha : fa S w = .ok d w1) (hb : fb S w1 = .ok e w2) (ho : (isCls c d && isCls c e) = true) (hm : mm [d, e] w2 = r) : eOwn c mm fa fb S w = r := by
  unfold eOwn; rw [ha, R.bind_ok, hb, R.bind_ok, if_pos ho, hm]
theorem x_sup {n : Nat} {r : R D} (h0 : S[(0 : Nat)]? = some (some (.dat d))) (ho : isCls c d = true) (hb : fs S w = .ok ds w2) (hn : ds.length + 1 = n) (hm : mm (d :: ds) w2 = r) : eSup c n mm fs S w = r := by
  unfold eSup; rw [h0]; simp only; rw [if_pos ho, hb, R.bind_ok, if_pos hn, hm]
theorem x_enumT (h : fa S w = .ok (.tup ds) w1) : iEnumT fa S w = .ok (numbered ds) w1 := by unfold iEnumT; rw [h]; rfl
theorem x_fldI {f : Str} {fl : List (Str × D)} {i : Nat} (h : fa S w = .ok d w1) (hi : insAt S i c = some fl) (hl : fl.length < 1000 ∧ soleI S i = true) : sFldI i c f fa S w = .nx (S.set i (some (.ins c (putD f d fl)))) w1 := by
  unfold sFldI; rw [h, R.to_ok, hi]; simp only; rw [if_pos hl]
theorem x_altL {fa fb : EM} (h : fa S w = .ok d w1) : eAlt fa fb S w = .ok d w1 := by unfold eAlt; rw [h]
theorem x_altR {fa fb : EM} {r : R D} (h : fa S w = .bad) (h2 : fb S w = r) : eAlt fa fb S w = r := by unfold eAlt; rw [h]; exact h2
theorem x_app {i : Nat} (h : fa S w = .ok d w1) (ho : ownAt S i = some ds) (hl : ds.length < 16777216) : sAppend i fa S w = .nx (S.set i (some (.own (ds ++ [d])))) w1 := by
  unfold sAppend; rw [ho]; simp only; rw [h, R.to_ok, if_pos (show ds.length < sizeN from hl)]
end
/-- a loop whose slots are told by the items that are left -/
theorem x_forI {β : Type} {gm : GM} {body : SM} {f : β → D} (I : List β → SL → Bx → Prop) (hs : ∀ b bs S w, I (b :: bs) S w → ∃ S1 S2 w2, gm (f b) S = some S1 ∧ body S1 w = .nx S2 w2 ∧ I bs S2 w2) : ∀ (l : List β) (S : SL) (w : Bx), I l S w → ∃ S2 w2, forLoop gm body (l.map f) S w = .nx S2 w2 ∧ I [] S2 w2
  | [], S, w, h => ⟨S, w, rfl, h⟩
  | b :: bs, S, w, h => by
    obtain ⟨S1, S2, w2, h1, h2, h3⟩ := hs b bs S w h
    obtain ⟨S3, w3, h4, h5⟩ := x_forI I hs bs S2 w2 h3
    refine ⟨S3, w3, ?_, h5⟩
    show (match gm (f b) S with | none => RS.bad | some S1 => _) = _
    rw [h1]
    simp only [h2]
    exact h4
theorem fl_ne1 : ¬ (("source" : Str) = "front") := by decide +kernel
theorem fl_ne2 : ¬ (("source" : Str) = "parts") := by decide +kernel
theorem fl_ne3 : ¬ (("source" : Str) = "back") := by decide +kernel
theorem fl_ne4 : ¬ (("front" : Str) = "parts") := by decide +kernel
theorem fl_ne5 : ¬ (("front" : Str) = "back") := by decide +kernel
theorem fl_ne6 : ¬ (("parts" : Str) = "back") := by decide +kernel
theorem tr_src (a b c d : D) : fldD "Trace" "source" (.obj "Trace" [("source", a), ("front", b), ("parts", c), ("back", d)]) = some a := by
  unfold fldD
  simp only [if_true]
  simp [List.lookup]
theorem tr_front (a b c d : D) : fldD "Trace" "front" (.obj "Trace" [("source", a), ("front", b), ("parts", c), ("back", d)]) = some b := by
  unfold fldD
  simp only [if_true]
  simp [List.lookup, show (("front" : Str) == "source") = false by decide +kernel]
theorem tr_parts (a b c d : D) : fldD "Trace" "parts" (.obj "Trace" [("source", a), ("front", b), ("parts", c), ("back", d)]) = some c := by
  unfold fldD
  simp only [if_true]
  simp [List.lookup, show (("parts" : Str) == "source") = false by decide +kernel, show (("parts" : Str) == "front") = false by decide +kernel]
theorem tr_back (a b c d : D) : fldD "Trace" "back" (.obj "Trace" [("source", a), ("front", b), ("parts", c), ("back", d)]) = some d := by
  unfold fldD
  simp only [if_true]
  simp [List.lookup, show (("back" : Str) == "source") = false by decide +kernel, show (("back" : Str) == "front") = false by decide +kernel, show (("back" : Str) == "parts") = false by decide +kernel]
theorem sc_kept (a : D) : fldD "Script" "kept" (.obj "Script" [("kept", a)]) = some a := by
  unfold fldD
  simp only [if_true]
  simp [List.lookup]
theorem cls_self (c : Str) (fs : List (Str × D)) : isCls c (.obj c fs) = true := decide_eq_true rfl
theorem add3 {a b c : List Nat} (h : a.length + b.length + c.length ≤ 16777216) : ∃ z, mAdd (.str (tx a)) (.str (tx b)) = some z ∧ mAdd z (.str (tx c)) = some (.str (tx (a ++ b ++ c))) :=
  ⟨_, add_tx (by omega), add_tx (by simp; omega)⟩
theorem join_txs (ys : List (List Nat)) (h : ys.flatten.length ≤ 16777216) : mJoin (.str "") (.lst (ys.map fun y => .str (tx y))) = some (.str (tx ys.flatten)) := by
  have e : strsOf (ys.map fun y => D.str (tx y)) = some (ys.map tx) := by
    clear h
    induction ys with
    | nil => rfl
    | cons y ys ih => rw [List.map_cons, strsOf, ih]; rfl
  have hl : ((ys.map tx).map (·.length)).sum = ys.flatten.length := by
    clear h e
    induction ys with
    | nil => rfl
    | cons y ys ih => rw [List.map_cons, List.map_cons, List.sum_cons, ih, List.flatten_cons, List.length_append, tx_len]
  show (strsOf _).bind (joinS "") = _
  rw [e, Option.bind_some, lit_nil]
  unfold joinS
  rw [hl, if_pos (by rw [tx_len]; simpa using (show ys.flatten.length ≤ sizeN from h)), tx_join]
theorem wr_len (ps : List Pc) : (wr ps).length = ((ps.map Pc.all).map List.length).sum := by simp [wr, List.length_flatten]
theorem wr_mem {ps : List Pc} {p : Pc} (h : p ∈ ps) : p.all.length ≤ (wr ps).length := by
  induction ps with
  | nil => cases h
  | cons q ps ih =>
    rw [wr_cons, List.length_append]
    rcases List.mem_cons.mp h with rfl | h
    · omega
    · have := ih h; omega
theorem wr_take (ps : List Pc) (n : Nat) : (wr (ps.take n)).length ≤ (wr ps).length := by
  conv => rhs; rw [← List.take_append_drop n ps, wr_app, List.length_append]
  omega
theorem wr_drop (ps : List Pc) (n : Nat) : (wr (ps.drop n)).length ≤ (wr ps).length := by
  conv => rhs; rw [← List.take_append_drop n ps, wr_app, List.length_append]
  omega
theorem slL_both (ds : List D) (i j : Nat) (h : i ≤ j) : mSl (.lst ds) (some (i : Int)) (some (j : Int)) = some (.lst ((ds.drop i).take (j - i))) := by
  show some (D.lst (cut ds (some (i : Int)) (some (j : Int)))) = _
  congr 2
  unfold cut
  rw [HT.sIx_nat, HT.sIx_nat]
  by_cases h1 : i ≤ ds.length
  · rw [Nat.min_eq_left h1]
    by_cases h2 : j ≤ ds.length
    · rw [Nat.min_eq_left h2]
    · rw [Nat.min_eq_right (by omega), List.take_of_length_le (by simp), List.take_of_length_le (by simp; omega)]
  · rw [Nat.min_eq_right (by omega), Nat.min_eq_right (by omega), List.drop_eq_nil_of_le (Nat.le_refl _), List.drop_eq_nil_of_le (by omega), List.take_nil, List.take_nil]
theorem insAt_cons {c : Str} {fl : List (Str × D)} {S : SL} : insAt (some (.ins c fl) :: S) 0 c = some fl := by
  unfold insAt
  simp
theorem put_f (a b : D) : putD "front" b [("source", a)] = ([("source", a), ("front", b)] : List (Str × D)) := by simp [putD, fl_ne1]
theorem put_p (a b c : D) : putD "parts" c [("source", a), ("front", b)] = ([("source", a), ("front", b), ("parts", c)] : List (Str × D)) := by simp [putD, fl_ne2, fl_ne4]
theorem put_b (a b c d : D) : putD "back" d [("source", a), ("front", b), ("parts", c)] = ([("source", a), ("front", b), ("parts", c), ("back", d)] : List (Str × D)) := by simp [putD, fl_ne3, fl_ne5, fl_ne6]
theorem x_seqZ {m k : SM} {S S1 S1' : SL} {w w1 : Bx} {r : RS} (h : m S w = .nx S1 w1) (e : S1 = S1') (h2 : k S1' w1 = r) : sSeq m k S w = r := x_seq h (e ▸ h2)
/-! ### where nothing is drawn -/
theorem p_cons {f : EM} {fs : AM} {S : SL} {w : Bx} {d : D} {ds : List D} (ha : f S w = .ok d w) (hr : fs S w = .ok ds w) : aCons f fs S w = .ok (d :: ds) w := x_cons ha hr
theorem p_bin {mo : D → D → Option D} {fa fb : EM} {S : SL} {w : Bx} {d e z : D} (ha : fa S w = .ok d w) (hb : fb S w = .ok e w) (hm : mo d e = some z) : eBin mo fa fb S w = .ok z w := x_bin ha hb hm
theorem p_seq {m k : SM} {S S1 : SL} {w : Bx} {r : RS} (h : m S w = .nx S1 w) (h2 : k S1 w = r) : sSeq m k S w = r := x_seq h h2
theorem p_lc {fi : AM} {gm : GM} {tm : TM} {em : EM} {vs : List Nat} {S : SL} {w : Bx} {ds : List D} {r : R (List D)} (h : fi S w = .ok ds w) (hl : ds.length ≤ sizeN) (hr : lcLoop gm tm em (wipeS S vs) ds w = r) : oLc fi gm tm em vs S w = r := x_lc h hl hr
theorem p_any {f : EM} {S : SL} {w : Bx} {d : D} {ds : List D} (h : f S w = .ok d w) (hi : itemsOf d = some ds) : iAny f S w = .ok ds w := x_any h hi
theorem nilS {S : SL} {w : Bx} : eC (.str "") S w = .ok (.str (tx [])) w := by rw [lit_nil]; rfl
theorem endI_ins {c : Str} {fl : List (Str × D)} {S : SL} {w : Bx} : endI c (.nx (some (.ins c fl) :: S) w) = .ok fl w := by
  unfold endI
  simp
theorem add_nn (a b : Nat) : mAdd (.int (a : Int)) (.int (b : Int)) = some (.int ((a + b : Nat) : Int)) := by
  show some (D.int ((a : Int) + (b : Int))) = _
  congr 2
theorem sl_pcs (ps : List Pc) (i j : Nat) (h : i ≤ j) : mSl (.lst (ps.map pcD)) (some (i : Int)) (some (j : Int)) = some (.lst (((ps.drop i).take (j - i)).map pcD)) := by
  rw [slL_both _ _ _ h, List.map_take, List.map_drop]
theorem ix_pcs {ps : List Pc} {i : Nat} (h : i < ps.length) : mIx (.lst (ps.map pcD)) (.int (i : Int)) = some (pcD (ps.getD i Pc.nil)) := by
  have : atI (ps.map pcD) (i : Int) = some ((ps.map pcD)[i]'(by simpa using h)) := at_int (by omega) (by simpa using h)
  show atI (ps.map pcD) (i : Int) = _
  rw [this]
  congr 1
  simp [List.getD_eq_getElem?_getD, h]
theorem eq_nilS (l : List Nat) : mEq (.str (tx l)) (.str "") = some (.bl (decide (l = []))) := by
  rw [lit_nil]
  show some (D.bl (decide (tx l = tx []))) = _
  congr 2
  exact decide_eq_decide.mpr tx_inj
theorem pc_nil : D.tup [.str "", .str "", .str ""] = pcD Pc.nil := by
  show _ = D.tup [.str (tx []), .str (tx []), .str (tx [])]
  rw [lit_nil]
theorem sym_ok {c : Nat} (h : AB c) : niceN 2 (.str (tx [c])) := by
  rcases h with rfl | rfl
  · rw [← lit_a]; show PyData.strOk _ = true; decide +kernel
  · rw [← lit_b]; show PyData.strOk _ = true; decide +kernel
theorem pl_nice {p : Pl} (h : PlOk p) : ∀ x ∈ [D.str (tx [p.c]), .int (p.n : Int), .str (endS p.fr)], niceN 1 x := by
  intro x hx
  simp only [List.mem_cons, List.not_mem_nil, or_false] at hx
  rcases hx with rfl | rfl | rfl
  · have := sym_ok h.1; unfold niceN at this ⊢; exact this
  · trivial
  · cases p.fr <;> (show PyData.strOk _ = true; decide +kernel)
theorem pl_isPl {p : Pl} (h : PlOk p) (h2 : p.n ≤ 2) : isPl (plD p) = true := by
  obtain ⟨c, n, fr⟩ := p
  obtain ⟨h1, h3, _⟩ := h
  have hn : n = 1 ∨ n = 2 := by simp only at h2 h3; omega
  simp only at h1
  have : isSym (.str (tx [c])) = true := by
    rcases h1 with rfl | rfl
    · rw [← lit_a]; decide +kernel
    · rw [← lit_b]; decide +kernel
  show (isSym (.str (tx [c])) && (isNum (.int (n : Int)) && (strEq "front" (.str (endS fr)) || strEq "back" (.str (endS fr))))) = true
  rw [this]
  rcases hn with rfl | rfl <;> cases fr <;> decide +kernel
theorem ed_list {e : Ed} (he : EdOk e) : ∃ a r, edD e = .tup (a :: r) ∧ r.length ≤ 2 ∧ ∀ x ∈ a :: r, niceN 2 x := by
  cases e with
  | keep => exact ⟨_, _, rfl, by simp, fun x hx => by rw [List.mem_singleton.mp hx]; show PyData.strOk _ = true; decide +kernel⟩
  | pre c => exact ⟨_, _, rfl, by simp, fun x hx => by
      simp only [List.mem_cons, List.not_mem_nil, or_false] at hx
      rcases hx with rfl | rfl
      · show PyData.strOk _ = true; decide +kernel
      · exact sym_ok he⟩
  | app c => exact ⟨_, _, rfl, by simp, fun x hx => by
      simp only [List.mem_cons, List.not_mem_nil, or_false] at hx
      rcases hx with rfl | rfl
      · show PyData.strOk _ = true; decide +kernel
      · exact sym_ok he⟩
  | at_ k p =>
    have hp : niceN 2 (plD p) := pl_nice he.2
    cases k with
    | bef c => exact ⟨_, _, rfl, by simp, fun x hx => by
        simp only [List.mem_cons, List.not_mem_nil, or_false] at hx
        rcases hx with rfl | rfl | rfl
        · show PyData.strOk _ = true; decide +kernel
        · exact hp
        · exact sym_ok he.1⟩
    | aft c => exact ⟨_, _, rfl, by simp, fun x hx => by
        simp only [List.mem_cons, List.not_mem_nil, or_false] at hx
        rcases hx with rfl | rfl | rfl
        · show PyData.strOk _ = true; decide +kernel
        · exact hp
        · exact sym_ok he.1⟩
    | rem => exact ⟨_, _, rfl, by simp, fun x hx => by
        simp only [List.mem_cons, List.not_mem_nil, or_false] at hx
        rcases hx with rfl | rfl
        · show PyData.strOk _ = true; decide +kernel
        · exact hp⟩
    | flp => exact ⟨_, _, rfl, by simp, fun x hx => by
        simp only [List.mem_cons, List.not_mem_nil, or_false] at hx
        rcases hx with rfl | rfl
        · show PyData.strOk _ = true; decide +kernel
        · exact hp⟩

def Ed2 : Ed → Prop
  | .at_ _ p => p.n ≤ 2
  | _ => True
theorem isSym_ab {c : Nat} (h : AB c) : isSym (.str (tx [c])) = true := by
  rcases h with rfl | rfl
  · rw [← lit_a]; decide +kernel
  · rw [← lit_b]; decide +kernel
theorem edB_word (w : Str) (b1 b2 b3 b4 : Bool) (r : List D) (h1 : strEq "keep" (.str w) = b1) (h2 : (strEq "prepend" (.str w) || strEq "append" (.str w)) = b2) (h3 : (strEq "before" (.str w) || strEq "after" (.str w)) = b3) (h4 : (strEq "remove" (.str w) || strEq "flip" (.str w)) = b4) : isEdD (.str w :: r) = isEdB b1 b2 b3 b4 r := by
  subst h1 h2 h3 h4; rfl
theorem ed_is {e : Ed} (he : EdOk e) (h2 : Ed2 e) : ∃ ds, edD e = .tup ds ∧ (∀ x ∈ ds, niceN 2 x) ∧ isEdD ds = true := by
  obtain ⟨a, r, e1, _, e3⟩ := ed_list he
  refine ⟨a :: r, e1, e3, ?_⟩
  cases e with
  | keep => cases e1; rw [edB_word "keep" true false false false _ (by decide +kernel) (by decide +kernel) (by decide +kernel) (by decide +kernel)]; rfl
  | pre c => cases e1; rw [edB_word "prepend" false true false false _ (by decide +kernel) (by decide +kernel) (by decide +kernel) (by decide +kernel)]; exact isSym_ab he
  | app c => cases e1; rw [edB_word "append" false true false false _ (by decide +kernel) (by decide +kernel) (by decide +kernel) (by decide +kernel)]; exact isSym_ab he
  | at_ k p =>
    have hp := pl_isPl he.2 h2
    cases k with
    | bef c => cases e1; rw [edB_word "before" false false true false _ (by decide +kernel) (by decide +kernel) (by decide +kernel) (by decide +kernel)]; show (isPl (plD p) && isSym (.str (tx [c]))) = true; rw [hp, isSym_ab he.1]; rfl
    | aft c => cases e1; rw [edB_word "after" false false true false _ (by decide +kernel) (by decide +kernel) (by decide +kernel) (by decide +kernel)]; show (isPl (plD p) && isSym (.str (tx [c]))) = true; rw [hp, isSym_ab he.1]; rfl
    | rem => cases e1; rw [edB_word "remove" false false false true _ (by decide +kernel) (by decide +kernel) (by decide +kernel) (by decide +kernel)]; exact hp
    | flp => cases e1; rw [edB_word "flip" false false false true _ (by decide +kernel) (by decide +kernel) (by decide +kernel) (by decide +kernel)]; exact hp
theorem ixN_nat {n i : Nat} (h : i < n) : ixN n (i : Int) = some i := by
  unfold ixN
  rw [if_pos (by omega), if_pos (by omega)]; simp
theorem x_put {i : Nat} {fi f : EM} {S : SL} {w w1 w2 : Bx} {d : D} {ds : List D} {n : Nat} (h : f S w = .ok d w1) (ho : ownAt S i = some ds) (hi : fi S w1 = .ok (.int (n : Int)) w2) (hn : n < ds.length) : sPut i fi f S w = .nx (S.set i (some (.own (ds.set n d)))) w2 := by
  unfold sPut; rw [h, R.to_ok, ho]; simp only; rw [hi, R.to_ok]; simp only; rw [ixN_nat hn]
theorem x_forW {gm : GM} {body : SM} {w : Bx} (I : SL → Prop) : ∀ (ds : List D) (S : SL), I S → (∀ x ∈ ds, ∀ S, I S → ∃ S1 S2, gm x S = some S1 ∧ body S1 w = .nx S2 w ∧ I S2) → ∃ S2, forLoop gm body ds S w = .nx S2 w ∧ I S2
  | [], S, h, _ => ⟨S, rfl, h⟩
  | x :: ds, S, h, hb => by
    obtain ⟨S1, S2, h1, h2, h3⟩ := hb x (List.mem_cons_self ..) S h
    obtain ⟨S3, h4, h5⟩ := x_forW I ds S2 h3 fun y hy => hb y (List.mem_cons_of_mem _ hy)
    refine ⟨S3, ?_, h5⟩
    show (match gm x S with | none => RS.bad | some S1 => _) = _
    rw [h1]
    simp only [h2]; exact h4
theorem num_mem {ds : List D} {x : D} (h : x ∈ numbered ds) : ∃ (i : Nat) (d : D), x = .tup [.int (i : Int), d] ∧ d ∈ ds := by
  obtain ⟨i, hi⟩ := List.getElem?_of_mem h
  obtain ⟨d, hd, rfl⟩ := num_get hi
  exact ⟨i, d, rfl, List.mem_of_getElem? hd⟩
theorem list_ex {P : Ed → Prop} : ∀ (ys : List D), (∀ y ∈ ys, ∃ e, y = edD e ∧ P e) → ∃ es : List Ed, ys = es.map edD ∧ ∀ e ∈ es, P e
  | [], _ => ⟨[], rfl, fun _ h => nomatch h⟩
  | y :: ys, h => by
    obtain ⟨e, rfl, he⟩ := h y (List.mem_cons_self ..)
    obtain ⟨es, rfl, hes⟩ := list_ex ys fun z hz => h z (List.mem_cons_of_mem _ hz)
    exact ⟨e :: es, rfl, fun x hx => by
      rcases List.mem_cons.mp hx with rfl | hx
      · exact he
      · exact hes x hx⟩
def Ed12 (e : Ed) : Prop := EdOk e ∧ Ed2 e
end Y
namespace Y
open PySem PySem.Spec PyProof.Rows L2
/-! ### symbols marked with their owners -/
structure Mk' where
  o : Int
  w : Bool
  s : List Nat
def lets (m : List Mk') : List Nat := (m.map Mk'.s).flatten
theorem lets_app (a b : List Mk') : lets (a ++ b) = lets a ++ lets b := by simp [lets]
theorem lets_cons (x : Mk') (b : List Mk') : lets (x :: b) = x.s ++ lets b := rfl
def news (o : Int) (l : List Nat) : List Mk' := l.map fun c => ⟨o, false, [c]⟩
theorem lets_news (o : Int) (l : List Nat) : lets (news o l) = l := by
  induction l with
  | nil => rfl
  | cons c l ih => show [c] ++ lets (news o l) = _; rw [ih]; rfl
theorem news_app (o : Int) (a b : List Nat) : news o (a ++ b) = news o a ++ news o b := by simp [news]
def mkP (i : Int) (p : Pc) : List Mk' := news i p.b ++ (⟨i, true, p.s⟩ :: news i p.a)
def mkPs : Nat → List Pc → List Mk'
  | _, [] => []
  | i, p :: ps => mkP (i : Int) p ++ mkPs (i + 1) ps
def mkT (t : Tr) : List Mk' := news (-1) t.head ++ (mkPs 0 t.ps ++ news (t.src.length : Int) t.tail)
theorem lets_mkP (i : Int) (p : Pc) : lets (mkP i p) = p.all := by
  unfold mkP Pc.all
  rw [lets_app, lets_cons, lets_news, lets_news, List.append_assoc]
theorem lets_mkPs : ∀ (ps : List Pc) (i : Nat), lets (mkPs i ps) = wr ps
  | [], _ => rfl
  | p :: ps, i => by rw [mkPs, lets_app, lets_mkP, lets_mkPs ps, wr_cons]
theorem lets_mkT (t : Tr) : lets (mkT t) = t.res := by
  unfold mkT Tr.res
  rw [lets_app, lets_app, lets_news, lets_news, lets_mkPs, List.append_assoc]
theorem mkPs_app : ∀ (a b : List Pc) (i : Nat), mkPs i (a ++ b) = mkPs i a ++ mkPs (i + a.length) b
  | [], b, i => by simp [mkPs]
  | p :: a, b, i => by rw [List.cons_append, mkPs, mkPs, mkPs_app a b, List.append_assoc, List.length_cons]; congr 3; omega
/-! the living ones -/
def liv (m : List Mk') : List Nat := (List.range m.length).filter fun i => !decide ((m.getD i ⟨0, false, []⟩).s = [])
def chM (m : List Mk') (i : Nat) (k : Kd) (f : Nat → Nat) : List Mk' := match k with
  | .bef c => m.take i ++ (⟨(m.getD i ⟨0, false, []⟩).o, false, [c]⟩ :: m.drop i)
  | .aft c => m.take (i + 1) ++ (⟨(m.getD i ⟨0, false, []⟩).o, false, [c]⟩ :: m.drop (i + 1))
  | .rem => if (m.getD i ⟨0, false, []⟩).w then m.take i ++ (⟨(m.getD i ⟨0, false, []⟩).o, true, []⟩ :: m.drop (i + 1)) else m.take i ++ m.drop (i + 1)
  | .flp => m.take i ++ (⟨(m.getD i ⟨0, false, []⟩).o, (m.getD i ⟨0, false, []⟩).w, (m.getD i ⟨0, false, []⟩).s.map f⟩ :: m.drop (i + 1))
def mkStep (m : List Mk') (e : Ed) (n : Nat) : List Mk' := match e with
  | .keep => m
  | .pre c => ⟨-1, false, [c]⟩ :: m
  | .app c => m ++ [⟨(n : Int), false, [c]⟩]
  | .at_ k p => match locP (lets m) p with
    | none => m
    | some j => chM m ((liv m).getD j 0) k flipC
/-- the living marks up to some place -/
theorem liv_app (a b : List Mk') : liv (a ++ b) = liv a ++ (liv b).map (· + a.length) := by
  unfold liv
  rw [List.length_append, List.range_add, List.filter_append, List.filter_map]
  congr 1
  · apply List.filter_congr
    intro i hi
    have := List.mem_range.mp hi
    simp [List.getD_eq_getElem?_getD, List.getElem?_append_left this]
  · rw [show (fun x => x + a.length) = (fun x => a.length + x) from funext fun x => Nat.add_comm _ _]
    congr 1
    apply List.filter_congr
    intro i hi
    simp [List.getD_eq_getElem?_getD, List.getElem?_append_right]
theorem liv_len {m : List Mk'} (h : ∀ x ∈ m, x.s.length ≤ 1) : (liv m).length = (lets m).length := by
  induction m with
  | nil => rfl
  | cons x m ih =>
    have h1 : liv (x :: m) = liv [x] ++ (liv m).map (· + 1) := liv_app [x] m
    rw [h1, List.length_append, List.length_map, ih fun y hy => h y (List.mem_cons_of_mem _ hy), lets_cons, List.length_append]
    congr 1
    have := h x (List.mem_cons_self ..)
    unfold liv
    cases hx : x.s with
    | nil => simp [hx, List.range_succ]
    | cons c r =>
      rw [hx] at this
      have : r = [] := List.length_eq_zero_iff.mp (by simpa using this)
      subst this
      simp [hx, List.range_succ]
theorem liv_at {m1 m2 : List Mk'} {x : Mk'} (h : ∀ y ∈ m1, y.s.length ≤ 1) (hx : x.s ≠ []) : (liv (m1 ++ x :: m2)).getD (lets m1).length 0 = m1.length := by
  rw [liv_app, ← liv_len h, List.getD_eq_getElem?_getD, List.getElem?_append_right (Nat.le_refl _), Nat.sub_self]
  have : liv (x :: m2) = 0 :: (liv m2).map (· + 1) := by
    have h1 : liv (x :: m2) = liv [x] ++ (liv m2).map (· + 1) := liv_app [x] m2
    rw [h1]
    have : liv [x] = [0] := by simp [liv, hx, List.range_succ]
    rw [this]; rfl
  rw [this]; simp
/-- what an edit at a place makes of the marks, where the place is known -/
theorem chM_at (m1 m2 : List Mk') (x : Mk') (k : Kd) (f : Nat → Nat) : chM (m1 ++ x :: m2) m1.length k f = match k with
    | .bef c => m1 ++ (⟨x.o, false, [c]⟩ :: x :: m2)
    | .aft c => m1 ++ (x :: ⟨x.o, false, [c]⟩ :: m2)
    | .rem => if x.w then m1 ++ (⟨x.o, true, []⟩ :: m2) else m1 ++ m2
    | .flp => m1 ++ (⟨x.o, x.w, x.s.map f⟩ :: m2) := by
  have hg : (m1 ++ x :: m2).getD m1.length ⟨0, false, []⟩ = x := by simp [List.getD_eq_getElem?_getD]
  have ht : (m1 ++ x :: m2).take m1.length = m1 := by simp
  have hd : (m1 ++ x :: m2).drop m1.length = x :: m2 := by simp
  have hd1 : (m1 ++ x :: m2).drop (m1.length + 1) = m2 := by rw [show m1 ++ x :: m2 = (m1 ++ [x]) ++ m2 by simp, show m1.length + 1 = (m1 ++ [x]).length by simp, List.drop_left]
  have ht1 : (m1 ++ x :: m2).take (m1.length + 1) = m1 ++ [x] := by rw [show m1 ++ x :: m2 = (m1 ++ [x]) ++ m2 by simp, show m1.length + 1 = (m1 ++ [x]).length by simp, List.take_left]
  cases k <;> simp [chM, hg, ht, hd, hd1, ht1]
/-- the marks that an edit leaves of one living mark -/
def chX (k : Kd) (x : Mk') (c : Nat) : List Mk' := match k with
  | .bef d => [⟨x.o, false, [d]⟩, x]
  | .aft d => [x, ⟨x.o, false, [d]⟩]
  | .rem => if x.w then [⟨x.o, true, []⟩] else []
  | .flp => [⟨x.o, x.w, [flipC c]⟩]
theorem step_at {m1 m2 : List Mk'} {x : Mk'} {c : Nat} {k : Kd} {p : Pl} {n : Nat} (h : ∀ y ∈ m1, y.s.length ≤ 1) (hx : x.s = [c]) (hl : locP (lets (m1 ++ x :: m2)) p = some (lets m1).length) : mkStep (m1 ++ x :: m2) (.at_ k p) n = m1 ++ chX k x c ++ m2 := by
  show (match locP (lets (m1 ++ x :: m2)) p with | none => _ | some j => chM _ ((liv (m1 ++ x :: m2)).getD j 0) k flipC) = _
  rw [hl]
  simp only
  rw [liv_at h (by rw [hx]; simp), chM_at]
  cases k with
  | bef d => simp [chX]
  | aft d => simp [chX]
  | rem => simp only [chX]; split <;> simp
  | flp => simp [chX, hx]
/-! ### what joining does to a trace, where the place is known -/
theorem wr_ones (l : List Nat) : wr (l.map one1) = l := wr_one l
theorem jnP_app (O : List Pc) : ∀ (a b : List Pc) (n : Nat), jnP O n (a ++ b) = jnP O n a ++ jnP O (n + (wr a).length) b
  | [], b, n => by simp [jnP, wr_nil]
  | p :: a, b, n => by
    rw [List.cons_append, jnP, jnP, jnP_app O a b, wr_cons, List.length_append, List.cons_append, Nat.add_assoc]
theorem seg_mid {A B C : List Pc} : ((A ++ B ++ C).drop A.length).take B.length = B := by
  rw [List.append_assoc, List.drop_left, List.take_left]
theorem jnStep_ones {A C : List Pc} {p : Pc} (hs : p.s.length ≤ 1) : jnStep (A ++ p.all.map one1 ++ C) A.length p = p := by
  obtain ⟨b, s, a⟩ := p
  have e1 : ((A ++ ((b ++ s ++ a).map one1) ++ C).drop A.length).take b.length = b.map one1 := by
    rw [List.append_assoc, List.drop_left, List.map_append, List.map_append, List.append_assoc, List.append_assoc, ← List.length_map (f := one1) (as := b), List.take_left]
  have e2 : ((A ++ ((b ++ s ++ a).map one1) ++ C).drop (A.length + b.length + s.length)).take a.length = a.map one1 := by
    have : A ++ ((b ++ s ++ a).map one1) ++ C = (A ++ b.map one1 ++ s.map one1) ++ (a.map one1 ++ C) := by simp
    rw [this, show A.length + b.length + s.length = (A ++ b.map one1 ++ s.map one1).length by simp [Nat.add_assoc], List.drop_left, ← List.length_map (f := one1) (as := a), List.take_left]
  have e3 : (A ++ ((b ++ s ++ a).map one1) ++ C).getD (A.length + b.length) Pc.nil = ((s ++ a).map one1 ++ C).getD 0 Pc.nil := by
    have : A ++ ((b ++ s ++ a).map one1) ++ C = (A ++ b.map one1) ++ ((s ++ a).map one1 ++ C) := by simp
    rw [this, show A.length + b.length = (A ++ b.map one1).length by simp, List.getD_eq_getElem?_getD, List.getElem?_append_right (Nat.le_refl _), Nat.sub_self, ← List.getD_eq_getElem?_getD]
  unfold jnStep Pc.all
  simp only
  rw [e1, e2, e3, wr_one, wr_one]
  cases s with
  | nil => simp [Pc.nil]
  | cons c r =>
    have : r = [] := List.length_eq_zero_iff.mp (by simpa using hs)
    subst this
    simp [one1]
theorem jnP_ones : ∀ (qs : List Pc) (A C : List Pc), (∀ q ∈ qs, q.s.length ≤ 1) → jnP (A ++ (wr qs).map one1 ++ C) A.length qs = qs
  | [], _, _, _ => rfl
  | q :: qs, A, C, h => by
    rw [wr_cons, List.map_append, jnP]
    have e1 : A ++ (q.all.map one1 ++ (wr qs).map one1) ++ C = A ++ q.all.map one1 ++ ((wr qs).map one1 ++ C) := by simp
    have e2 : A ++ (q.all.map one1 ++ (wr qs).map one1) ++ C = (A ++ q.all.map one1) ++ (wr qs).map one1 ++ C := by simp
    congr 1
    · rw [e1]; exact jnStep_ones (h q (List.mem_cons_self ..))
    · rw [e2, show A.length + q.all.length = (A ++ q.all.map one1).length by simp]
      exact jnP_ones qs _ C fun x hx => h x (List.mem_cons_of_mem _ hx)
theorem jnStep_g {A B S E C : List Pc} {p : Pc} (hb : B.length = p.b.length) (hs : S.length = p.s.length) (ha : E.length = p.a.length) (h1 : p.s.length ≤ 1) : jnStep (A ++ (B ++ (S ++ (E ++ C)))) A.length p = ⟨wr B ++ (S.headD Pc.nil).b, (S.headD Pc.nil).s, (S.headD Pc.nil).a ++ wr E⟩ := by
  have e1 : ((A ++ (B ++ (S ++ (E ++ C)))).drop A.length).take p.b.length = B := by rw [List.drop_left, ← hb, List.take_left]
  have e2 : ((A ++ (B ++ (S ++ (E ++ C)))).drop (A.length + p.b.length + p.s.length)).take p.a.length = E := by
    rw [show A ++ (B ++ (S ++ (E ++ C))) = (A ++ B ++ S) ++ (E ++ C) by simp, show A.length + p.b.length + p.s.length = (A ++ B ++ S).length by simp [hb, hs, Nat.add_assoc], List.drop_left, ← ha, List.take_left]
  have e3 : (A ++ (B ++ (S ++ (E ++ C)))).getD (A.length + p.b.length) Pc.nil = (S ++ (E ++ C)).getD 0 Pc.nil := by
    rw [show A ++ (B ++ (S ++ (E ++ C))) = (A ++ B) ++ (S ++ (E ++ C)) by simp, show A.length + p.b.length = (A ++ B).length by simp [hb], List.getD_eq_getElem?_getD, List.getElem?_append_right (Nat.le_refl _), Nat.sub_self, ← List.getD_eq_getElem?_getD]
  unfold jnStep
  rw [e1, e2, e3]
  cases S with
  | nil =>
    have : p.s = [] := List.length_eq_zero_iff.mp (by simpa using hs.symm)
    rw [if_pos this]; rfl
  | cons x r =>
    have : p.s ≠ [] := fun e => by rw [e] at hs; simp at hs
    rw [if_neg this]; rfl
theorem jn_three {t : Tr} {src h0 t0 : List Nat} {A B C : List Pc} (hA : A.length = t.head.length) (hB : B.length = (wr t.ps).length) : jnT t ⟨src, h0, A ++ B ++ C, t0⟩ = ⟨t.src, h0 ++ wr A, jnP (A ++ B ++ C) A.length t.ps, wr C ++ t0⟩ := by
  unfold jnT
  simp only
  rw [← hA, ← hB]
  congr 2
  · rw [List.append_assoc, List.take_left]
  · rw [show A.length + B.length = (A ++ B).length by simp, List.drop_left]
theorem res_ones (t : Tr) : t.res.map one1 = t.head.map one1 ++ (wr t.ps).map one1 ++ t.tail.map one1 := by simp [Tr.res]
theorem jn_side {t : Tr} {src h0 t0 : List Nat} {A C : List Pc} (ht : t.Ok) (hA : A.length = t.head.length) : jnT t ⟨src, h0, A ++ (wr t.ps).map one1 ++ C, t0⟩ = ⟨t.src, h0 ++ wr A, t.ps, wr C ++ t0⟩ := by
  rw [jn_three hA (by simp), jnP_ones _ _ _ ht.one]
theorem jn_mid {t : Tr} {src : List Nat} {ps1 ps2 Q : List Pc} {p : Pc} (ht : t.Ok) (hp : t.ps = ps1 ++ p :: ps2) (hQ : Q.length = p.all.length) :
    jnT t ⟨src, [], t.head.map one1 ++ ((wr ps1).map one1 ++ Q ++ (wr ps2).map one1) ++ t.tail.map one1, []⟩ = ⟨t.src, t.head, ps1 ++ jnStep (t.head.map one1 ++ (wr ps1).map one1 ++ (Q ++ ((wr ps2).map one1 ++ t.tail.map one1))) (t.head.map one1 ++ (wr ps1).map one1).length p :: ps2, t.tail⟩ := by
  have h1 : ∀ q ∈ ps1, q.s.length ≤ 1 := fun q hq => ht.one q (by rw [hp]; simp [hq])
  have h2 : ∀ q ∈ ps2, q.s.length ≤ 1 := fun q hq => ht.one q (by rw [hp]; simp [hq])
  rw [jn_three (by simp) (by rw [hp, wr_app, wr_cons]; simp [hQ]), wr_one, wr_one]
  simp only [List.nil_append, List.append_nil]
  congr 1
  rw [hp, jnP_app, jnP]
  have e1 : t.head.map one1 ++ ((wr ps1).map one1 ++ Q ++ (wr ps2).map one1) ++ t.tail.map one1 = t.head.map one1 ++ (wr ps1).map one1 ++ (Q ++ ((wr ps2).map one1 ++ t.tail.map one1)) := by simp
  have e2 : t.head.map one1 ++ ((wr ps1).map one1 ++ Q ++ (wr ps2).map one1) ++ t.tail.map one1 = (t.head.map one1 ++ (wr ps1).map one1 ++ Q) ++ (wr ps2).map one1 ++ t.tail.map one1 := by simp
  congr 1
  · rw [e1]; exact jnP_ones ps1 _ _ h1
  · congr 1
    · rw [e1]; congr 1; simp
    · rw [e2, show (t.head.map one1).length + (wr ps1).length + p.all.length = (t.head.map one1 ++ (wr ps1).map one1 ++ Q).length by simp [hQ, Nat.add_assoc]]
      exact jnP_ones ps2 _ _ h2
/-! ### the step -/
theorem chX_news (k : Kd) (o : Int) (c : Nat) : chX k ⟨o, false, [c]⟩ c = news o (chP k c).all := by
  cases k <;> rfl
theorem one_le (l : List Nat) (o : Int) : ∀ y ∈ news o l, y.s.length ≤ 1 := fun y hy => by
  obtain ⟨c, _, rfl⟩ := List.mem_map.mp hy
  simp
theorem mkP_le {p : Pc} (h : p.s.length ≤ 1) (i : Int) : ∀ y ∈ mkP i p, y.s.length ≤ 1 := fun y hy => by
  rcases List.mem_append.mp hy with hy | hy
  · exact one_le _ _ y hy
  · rcases List.mem_cons.mp hy with rfl | hy
    · exact h
    · exact one_le _ _ y hy
theorem mkPs_le : ∀ (ps : List Pc) (i : Nat), (∀ p ∈ ps, p.s.length ≤ 1) → ∀ y ∈ mkPs i ps, y.s.length ≤ 1
  | [], _, _, y, hy => nomatch hy
  | p :: ps, i, h, y, hy => by
    rcases List.mem_append.mp hy with hy | hy
    · exact mkP_le (h p (List.mem_cons_self ..)) _ y hy
    · exact mkPs_le ps _ (fun q hq => h q (List.mem_cons_of_mem _ hq)) y hy
theorem split_at {l : List Nat} {j : Nat} (h : j < l.length) : ∃ a b, l = a ++ l.getD j 0 :: b ∧ a.length = j := by
  refine ⟨l.take j, l.drop (j + 1), ?_, by rw [List.length_take]; omega⟩
  rw [List.getD_eq_getElem?_getD, List.getElem?_eq_getElem h, Option.getD_some, ← List.drop_eq_getElem_cons h, List.take_append_drop]
theorem split_ps : ∀ {ps : List Pc} {n : Nat}, n < (wr ps).length → ∃ ps1 p ps2, ps = ps1 ++ p :: ps2 ∧ (wr ps1).length ≤ n ∧ n < (wr ps1).length + p.all.length
  | [], n, h => by simp [wr_nil] at h
  | p :: ps, n, h => by
    by_cases hp : n < p.all.length
    · exact ⟨[], p, ps, rfl, by simp [wr_nil], by simpa [wr_nil] using hp⟩
    · rw [wr_cons, List.length_append] at h
      obtain ⟨ps1, q, ps2, e, h1, h2⟩ := split_ps (ps := ps) (n := n - p.all.length) (by omega)
      exact ⟨p :: ps1, q, ps2, by rw [e]; rfl, by rw [wr_cons, List.length_append]; omega, by rw [wr_cons, List.length_append]; omega⟩
theorem set_mid {a b : List Nat} {c j : Nat} {q : Pc} (h : a.length = j) : ((a ++ c :: b).map one1).set j q = a.map one1 ++ q :: b.map one1 := by
  rw [List.map_append, List.map_cons, List.set_append_right _ _ (by simp [h]), show j - (a.map one1).length = 0 by simp [h]]
  rfl
theorem step_mk {t : Tr} (ht : t.Ok) {e : Ed} (he : EdOk e) : mkStep (mkT t) e t.src.length = mkT (jnT t (edT e t.res)) := by
  cases e with
  | keep =>
    have : jnT t (edT .keep t.res) = t := by
      show jnT t ⟨t.res, [], t.res.map one1, []⟩ = t
      rw [res_ones, jn_side ht (by simp), wr_one, wr_one, List.nil_append, List.append_nil]
    rw [this]; rfl
  | pre c =>
    have : jnT t (edT (.pre c) t.res) = ⟨t.src, [c] ++ t.head, t.ps, t.tail⟩ := by
      show jnT t ⟨t.res, [c], t.res.map one1, []⟩ = _
      rw [res_ones, jn_side ht (by simp), wr_one, wr_one, List.append_nil]
    rw [this]; rfl
  | app c =>
    have : jnT t (edT (.app c) t.res) = ⟨t.src, t.head, t.ps, t.tail ++ [c]⟩ := by
      show jnT t ⟨t.res, [], t.res.map one1, [c]⟩ = _
      rw [res_ones, jn_side ht (by simp), wr_one, wr_one, List.nil_append]
    rw [this]
    show mkT t ++ [_] = _
    unfold mkT
    simp only
    rw [news_app, List.append_assoc, List.append_assoc]
    rfl
  | at_ k p =>
    cases hl : locP t.res p with
    | none =>
      have h1 : jnT t (edT (.at_ k p) t.res) = t := by
        simp only [edT, hl, atPs]
        rw [res_ones, jn_side ht (by simp), wr_one, wr_one, List.nil_append, List.append_nil]
      rw [h1]
      show (match locP (lets (mkT t)) p with | none => mkT t | some j => _) = _
      rw [lets_mkT, hl]
    | some j =>
      have hj := (locO_lt he.2.2.1 hl).1
      have hE : edT (.at_ k p) t.res = ⟨t.res, [], (t.res.map one1).set j (chP k (t.res.getD j 0)), []⟩ := by simp only [edT, hl, atPs]
      rw [hE]
      obtain ⟨X, Y, hXY, hX⟩ := split_at hj
      generalize hc : t.res.getD j 0 = c at *
      have hset : (t.res.map one1).set j (chP k c) = X.map one1 ++ chP k c :: Y.map one1 := by rw [hXY]; exact set_mid hX
      rw [hset]
      have hlets := lets_mkT t
      have hlen : t.res.length = t.head.length + (wr t.ps).length + t.tail.length := by simp [Tr.res, Nat.add_assoc]
      have hone : ∀ y ∈ mkPs 0 t.ps, y.s.length ≤ 1 := mkPs_le t.ps 0 ht.one
      have key : ∀ (m1 m2 : List Mk') (x : Mk'), mkT t = m1 ++ x :: m2 → (∀ y ∈ m1, y.s.length ≤ 1) → x.s = [c] → (lets m1).length = j → mkStep (mkT t) (.at_ k p) t.src.length = m1 ++ chX k x c ++ m2 := fun m1 m2 x e h1 h2 h3 => by
        rw [e]
        refine step_at h1 h2 ?_
        rw [← e, hlets, h3]; exact hl
      by_cases c1 : j < t.head.length
      · -- in the head
        obtain ⟨h2, hh⟩ : ∃ h2, t.head = X ++ c :: h2 := by
          refine ⟨t.head.drop (j + 1), ?_⟩
          have : t.res.take t.head.length = t.head := by simp [Tr.res]
          have h3 : t.head = (X ++ c :: Y).take t.head.length := by rw [← hXY, this]
          rw [List.take_append, List.take_of_length_le (by omega)] at h3
          obtain ⟨n, hn⟩ : ∃ n, t.head.length - X.length = n + 1 := ⟨t.head.length - X.length - 1, by omega⟩
          rw [hn, List.take_succ_cons] at h3
          have h4 : t.head.drop (j + 1) = Y.take n := by
            rw [h3, show j + 1 = (X ++ [c]).length by simp [hX], show X ++ c :: Y.take n = (X ++ [c]) ++ Y.take n by simp, List.drop_left]
          rw [h4]; exact h3
        have hY : Y = h2 ++ wr t.ps ++ t.tail := by
          have : X ++ c :: Y = X ++ c :: (h2 ++ wr t.ps ++ t.tail) := by rw [← hXY]; unfold Tr.res; rw [hh]; simp
          simpa using this
        rw [key (news (-1) X) (news (-1) h2 ++ (mkPs 0 t.ps ++ news (t.src.length : Int) t.tail)) ⟨-1, false, [c]⟩ (by unfold mkT; rw [hh, news_app]; simp [news]) (one_le _ _) rfl (by rw [lets_news]; exact hX), chX_news]
        rw [hY, show X.map one1 ++ chP k c :: (h2 ++ wr t.ps ++ t.tail).map one1 = (X.map one1 ++ chP k c :: h2.map one1) ++ (wr t.ps).map one1 ++ t.tail.map one1 by simp, jn_side ht (by rw [hh]; simp)]
        unfold mkT
        simp only [List.nil_append, List.append_nil, wr_app, wr_cons, wr_one]
        rw [news_app, news_app]
        simp
      · by_cases c2 : j < t.head.length + (wr t.ps).length
        · -- in a piece
          obtain ⟨ps1, q, ps2, hp, g1, g2⟩ := split_ps (ps := t.ps) (n := j - t.head.length) (by omega)
          have hq1 : q.s.length ≤ 1 := ht.one q (by rw [hp]; simp)
          have hps1 : ∀ y ∈ mkPs 0 ps1, y.s.length ≤ 1 := mkPs_le ps1 0 fun x hx => ht.one x (by rw [hp]; simp [hx])
          have hpre : ∀ y ∈ news (-1) t.head ++ mkPs 0 ps1, y.s.length ≤ 1 := fun y hy => (List.mem_append.mp hy).elim (one_le _ _ y) (hps1 y)
          have hres : t.res = (t.head ++ wr ps1) ++ (q.all ++ (wr ps2 ++ t.tail)) := by unfold Tr.res; rw [hp, wr_app, wr_cons]; simp
          obtain ⟨i, hi⟩ : ∃ i, j = (t.head ++ wr ps1).length + i := ⟨j - (t.head ++ wr ps1).length, by simp; omega⟩
          have hil : i < q.all.length := by simp at hi; omega
          obtain ⟨U, W, hUW, hU⟩ := split_at hil
          have hcU : q.all.getD i 0 = c := by
            rw [← hc, hres, List.getD_eq_getElem?_getD, List.getD_eq_getElem?_getD, hi, List.getElem?_append_right (by omega), Nat.add_sub_cancel_left, List.getElem?_append_left hil]
          rw [hcU] at hUW
          have hX2 : X = t.head ++ wr ps1 ++ U ∧ Y = W ++ (wr ps2 ++ t.tail) := by
            have h3 : X ++ c :: Y = (t.head ++ wr ps1 ++ U) ++ c :: (W ++ (wr ps2 ++ t.tail)) := by rw [← hXY, hres, hUW]; simp
            have h4 : X.length = (t.head ++ wr ps1 ++ U).length := by rw [hX]; simp only [List.length_append] at hi ⊢; omega
            obtain ⟨a1, a2⟩ := List.append_inj h3 h4
            exact ⟨a1, by simpa using a2⟩
          obtain ⟨rfl, rfl⟩ := hX2
          have hO : (t.head ++ wr ps1 ++ U).map one1 ++ chP k c :: (W ++ (wr ps2 ++ t.tail)).map one1 = t.head.map one1 ++ ((wr ps1).map one1 ++ (U.map one1 ++ chP k c :: W.map one1) ++ (wr ps2).map one1) ++ t.tail.map one1 := by simp
          rw [hO, jn_mid ht hp (by rw [hUW]; simp)]
          have hmk : mkT t = (news (-1) t.head ++ mkPs 0 ps1) ++ (mkP (ps1.length : Int) q ++ (mkPs (ps1.length + 1) ps2 ++ news (t.src.length : Int) t.tail)) := by
            unfold mkT; rw [hp, mkPs_app, mkPs, Nat.zero_add]; simp
          have goal : ∀ q' : Pc, mkT ⟨t.src, t.head, ps1 ++ q' :: ps2, t.tail⟩ = (news (-1) t.head ++ mkPs 0 ps1) ++ (mkP (ps1.length : Int) q' ++ (mkPs (ps1.length + 1) ps2 ++ news (t.src.length : Int) t.tail)) := fun q' => by
            unfold mkT; simp only; rw [mkPs_app, mkPs, Nat.zero_add]; simp
          rw [goal]
          have hpl : (lets (news (-1) t.head ++ mkPs 0 ps1)).length = (t.head ++ wr ps1).length := by rw [lets_app, lets_news, lets_mkPs]
          obtain ⟨b, s, a⟩ := q
          by_cases d1 : i < b.length
          · -- ahead of the symbol
            obtain ⟨b1, b2, hb, hb1⟩ := split_at d1
            have hbc : b.getD i 0 = c := by rw [← hcU]; simp [Pc.all, List.getD_eq_getElem?_getD, List.getElem?_append_left, d1, Nat.lt_of_lt_of_le d1 (Nat.le_add_right _ _)]
            rw [hbc] at hb
            have hUW2 : U = b1 ∧ W = b2 ++ s ++ a := by
              have h3 : U ++ c :: W = b1 ++ c :: (b2 ++ s ++ a) := by rw [← hUW]; simp only [Pc.all]; rw [hb]; simp
              obtain ⟨a1, a2⟩ := List.append_inj h3 (by omega)
              exact ⟨a1, by simpa using a2⟩
            obtain ⟨rfl, rfl⟩ := hUW2
            rw [key ((news (-1) t.head ++ mkPs 0 ps1) ++ news (ps1.length : Int) U) (news (ps1.length : Int) b2 ++ (⟨(ps1.length : Int), true, s⟩ :: news (ps1.length : Int) a) ++ (mkPs (ps1.length + 1) ps2 ++ news (t.src.length : Int) t.tail)) ⟨(ps1.length : Int), false, [c]⟩
              (by rw [hmk]; unfold mkP; simp only; rw [hb, news_app]; simp [news]) (fun y hy => (List.mem_append.mp hy).elim (hpre y) (one_le _ _ y)) rfl (by rw [lets_app, List.length_append, hpl, lets_news, hb1, hi]), chX_news]
            have hj2 := jnStep_g (A := t.head.map one1 ++ (wr ps1).map one1) (B := U.map one1 ++ chP k c :: b2.map one1) (S := s.map one1) (E := a.map one1) (C := (wr ps2).map one1 ++ t.tail.map one1) (p := ⟨b, s, a⟩) (by simp only; rw [hb]; simp) (by simp) (by simp) hq1
            rw [show (U.map one1 ++ chP k c :: (b2 ++ s ++ a).map one1 ++ ((wr ps2).map one1 ++ t.tail.map one1)) = (U.map one1 ++ chP k c :: b2.map one1) ++ (s.map one1 ++ (a.map one1 ++ ((wr ps2).map one1 ++ t.tail.map one1))) by simp, hj2]
            have hs1 : ((s.map one1).headD Pc.nil).b = [] ∧ ((s.map one1).headD Pc.nil).s = s ∧ ((s.map one1).headD Pc.nil).a = [] := by
              cases s with
              | nil => exact ⟨rfl, rfl, rfl⟩
              | cons x r =>
                have : r = [] := List.length_eq_zero_iff.mp (by simpa using hq1)
                subst this; exact ⟨rfl, rfl, rfl⟩
            rw [hs1.1, hs1.2.1, hs1.2.2, wr_app, wr_cons, wr_one, wr_one, wr_one]
            unfold mkP
            simp only [List.append_nil, List.nil_append]
            rw [news_app, news_app]
            simp
          · by_cases d2 : i < b.length + s.length
            · -- the symbol itself
              have hs : s = [c] ∧ i = b.length := by
                have h1 : s.length = 1 := by simp only at hq1; omega
                obtain ⟨x, rfl⟩ := List.length_eq_one_iff.mp h1
                have h2 : i = b.length := by simp at d2; omega
                refine ⟨?_, h2⟩
                subst h2
                rw [← hcU]; simp [Pc.all, List.getD_eq_getElem?_getD]
              obtain ⟨rfl, rfl⟩ := hs
              have hUW2 : U = b ∧ W = a := by
                have h3 : U ++ c :: W = b ++ c :: a := by rw [← hUW]; simp [Pc.all]
                obtain ⟨a1, a2⟩ := List.append_inj h3 (by omega)
                exact ⟨a1, by simpa using a2⟩
              obtain ⟨rfl, rfl⟩ := hUW2
              rw [key ((news (-1) t.head ++ mkPs 0 ps1) ++ news (ps1.length : Int) U) (news (ps1.length : Int) W ++ (mkPs (ps1.length + 1) ps2 ++ news (t.src.length : Int) t.tail)) ⟨(ps1.length : Int), true, [c]⟩
                (by rw [hmk]; unfold mkP; simp) (fun y hy => (List.mem_append.mp hy).elim (hpre y) (one_le _ _ y)) rfl (by rw [lets_app, List.length_append, hpl, lets_news, hi])]
              have hj2 := jnStep_g (A := t.head.map one1 ++ (wr ps1).map one1) (B := U.map one1) (S := [chP k c]) (E := W.map one1) (C := (wr ps2).map one1 ++ t.tail.map one1) (p := ⟨U, [c], W⟩) (by simp) (by simp) (by simp) hq1
              rw [show (U.map one1 ++ chP k c :: W.map one1 ++ ((wr ps2).map one1 ++ t.tail.map one1)) = U.map one1 ++ ([chP k c] ++ (W.map one1 ++ ((wr ps2).map one1 ++ t.tail.map one1))) by simp, hj2, wr_one, wr_one]
              cases k <;> simp [mkP, chX, chP, news]
            · -- behind the symbol
              have d3 : i - (b.length + s.length) < a.length := by simp [Pc.all] at hil; omega
              obtain ⟨a1, a2, ha, ha1⟩ := split_at d3
              have hac : a.getD (i - (b.length + s.length)) 0 = c := by
                rw [← hcU]
                simp only [Pc.all, List.getD_eq_getElem?_getD]
                rw [List.getElem?_append_right (by simp; omega), List.length_append]
              rw [hac] at ha
              have hUW2 : U = b ++ s ++ a1 ∧ W = a2 := by
                have h3 : U ++ c :: W = (b ++ s ++ a1) ++ c :: a2 := by rw [← hUW]; simp only [Pc.all]; rw [ha]; simp
                obtain ⟨z1, z2⟩ := List.append_inj h3 (by simp; omega)
                exact ⟨z1, by simpa using z2⟩
              obtain ⟨rfl, rfl⟩ := hUW2
              rw [key ((news (-1) t.head ++ mkPs 0 ps1) ++ (news (ps1.length : Int) b ++ (⟨(ps1.length : Int), true, s⟩ :: news (ps1.length : Int) a1))) (news (ps1.length : Int) W ++ (mkPs (ps1.length + 1) ps2 ++ news (t.src.length : Int) t.tail)) ⟨(ps1.length : Int), false, [c]⟩
                (by rw [hmk]; unfold mkP; simp only; rw [ha, news_app]; simp [news]) (fun y hy => (List.mem_append.mp hy).elim (hpre y) (fun hy => (List.mem_append.mp hy).elim (one_le _ _ y) fun hy => (List.mem_cons.mp hy).elim (fun e => by rw [e]; exact hq1) (one_le _ _ y))) rfl
                (by rw [lets_app, List.length_append, hpl, lets_app, lets_cons, lets_news, lets_news, hi]; simp; omega), chX_news]
              have hj2 := jnStep_g (A := t.head.map one1 ++ (wr ps1).map one1) (B := b.map one1) (S := s.map one1) (E := a1.map one1 ++ chP k c :: W.map one1) (C := (wr ps2).map one1 ++ t.tail.map one1) (p := ⟨b, s, a⟩) (by simp) (by simp) (by simp only; rw [ha]; simp) hq1
              rw [show ((b ++ s ++ a1).map one1 ++ chP k c :: W.map one1 ++ ((wr ps2).map one1 ++ t.tail.map one1)) = b.map one1 ++ (s.map one1 ++ ((a1.map one1 ++ chP k c :: W.map one1) ++ ((wr ps2).map one1 ++ t.tail.map one1))) by simp, hj2]
              have hs1 : ((s.map one1).headD Pc.nil).b = [] ∧ ((s.map one1).headD Pc.nil).s = s ∧ ((s.map one1).headD Pc.nil).a = [] := by
                cases s with
                | nil => exact ⟨rfl, rfl, rfl⟩
                | cons x r =>
                  have : r = [] := List.length_eq_zero_iff.mp (by simpa using hq1)
                  subst this; exact ⟨rfl, rfl, rfl⟩
              rw [hs1.1, hs1.2.1, hs1.2.2, wr_app, wr_cons, wr_one, wr_one, wr_one]
              unfold mkP
              simp only [List.append_nil, List.nil_append]
              rw [news_app, news_app]
              simp
        · -- in the tail
          have hpre : t.res = (t.head ++ wr t.ps) ++ t.tail := rfl
          have hil : j - (t.head ++ wr t.ps).length < t.tail.length := by simp; omega
          obtain ⟨t1, t2, hh, ht1⟩ := split_at hil
          have htc : t.tail.getD (j - (t.head ++ wr t.ps).length) 0 = c := by
            rw [← hc, hpre, List.getD_eq_getElem?_getD, List.getD_eq_getElem?_getD, List.getElem?_append_right (by simp; omega)]
          rw [htc] at hh
          have hX2 : X = t.head ++ wr t.ps ++ t1 ∧ Y = t2 := by
            have h3 : X ++ c :: Y = (t.head ++ wr t.ps ++ t1) ++ c :: t2 := by rw [← hXY, hpre, hh]; simp
            obtain ⟨a1, a2⟩ := List.append_inj h3 (by rw [hX, List.length_append, ht1]; simp; omega)
            exact ⟨a1, by simpa using a2⟩
          obtain ⟨rfl, rfl⟩ := hX2
          rw [key (news (-1) t.head ++ (mkPs 0 t.ps ++ news (t.src.length : Int) t1)) (news (t.src.length : Int) Y) ⟨(t.src.length : Int), false, [c]⟩ (by unfold mkT; rw [hh, news_app]; simp [news])
            (fun y hy => (List.mem_append.mp hy).elim (one_le _ _ y) fun hy => (List.mem_append.mp hy).elim (hone y) (one_le _ _ y)) rfl (by rw [lets_app, lets_app, lets_news, lets_news, lets_mkPs, ← List.append_assoc]; exact hX), chX_news]
          rw [show (t.head ++ wr t.ps ++ t1).map one1 ++ chP k c :: Y.map one1 = t.head.map one1 ++ (wr t.ps).map one1 ++ (t1.map one1 ++ chP k c :: Y.map one1) by simp, jn_side ht (by simp)]
          unfold mkT
          simp only [List.nil_append, List.append_nil, wr_app, wr_cons, wr_one]
          rw [news_app, news_app]
          simp
theorem still_mk (l : List Nat) : mkT (stillT l) = (List.range l.length).map fun i => ⟨(i : Int), true, [l.getD i 0]⟩ := by
  have key : ∀ (l : List Nat) (n : Nat), mkPs n (l.map one1) = (List.range l.length).map fun i => ⟨((n + i : Nat) : Int), true, [l.getD i 0]⟩ := by
    intro l
    induction l with
    | nil => intro n; rfl
    | cons c l ih =>
      intro n
      rw [List.map_cons, mkPs, ih, List.length_cons, List.range_succ_eq_map, List.map_cons, List.map_map]
      simp only [mkP, one1, news, List.map_nil, List.nil_append, List.cons_append, Nat.add_zero, List.getD_cons_zero]
      congr 1
      apply List.map_congr_left
      intro i _
      simp [Nat.add_assoc, Nat.add_comm 1]
  unfold mkT stillT
  simp only [news, List.map_nil, List.nil_append, List.append_nil]
  rw [key l 0]; simp
theorem runs_mk : ∀ (es : List Ed) (t : Tr), t.Ok → (∀ e ∈ es, EdOk e) → es.foldl (fun m e => mkStep m e t.src.length) (mkT t) = mkT (runT t es)
  | [], _, _, _ => rfl
  | e :: es, t, h, he => by
    have h1 := step_mk h (he e (List.mem_cons_self ..))
    have h2 := (run_step h (he e (List.mem_cons_self ..))).1
    rw [List.foldl_cons, h1]
    exact runs_mk es (jnT t (edT e t.res)) h2 fun x hx => he x (List.mem_cons_of_mem _ hx)
end Y
namespace Y
open PySem PySem.Spec PyProof.Rows L2
def m0 : Mk' := ⟨0, false, []⟩
def mkD (m : Mk') : D := .lst [.int m.o, .bl m.w, .str (tx m.s)]
theorem liv_flat (m : List Mk') : ((liv m).map fun i => (m.getD i ⟨0, false, []⟩).s).flatten = lets m := by
  induction m with
  | nil => rfl
  | cons x m ih =>
    have h1 : liv (x :: m) = liv [x] ++ (liv m).map (· + 1) := liv_app [x] m
    rw [h1, List.map_append, List.flatten_append, List.map_map, lets_cons]
    have h2 : (liv m).map ((fun i => ((x :: m).getD i ⟨0, false, []⟩).s) ∘ (· + 1)) = (liv m).map fun i => (m.getD i ⟨0, false, []⟩).s := by
      apply List.map_congr_left
      intro i _
      simp
    rw [h2, ih]
    congr 1
    unfold liv
    cases hx : x.s with
    | nil => simp [hx, List.range_succ]
    | cons c r => simp [hx, List.range_succ]
def ownIx (m : List Mk') : List Nat := (List.range m.length).filter fun i => (m.getD i ⟨0, false, []⟩).w
theorem own_app (a b : List Mk') : ownIx (a ++ b) = ownIx a ++ (ownIx b).map (· + a.length) := by
  unfold ownIx
  rw [List.length_append, List.range_add, List.filter_append, List.filter_map]
  congr 1
  · apply List.filter_congr
    intro i hi
    have := List.mem_range.mp hi
    simp [List.getD_eq_getElem?_getD, List.getElem?_append_left this]
  · rw [show (fun x => x + a.length) = (fun x => a.length + x) from funext fun x => Nat.add_comm _ _]
    congr 1
    apply List.filter_congr
    intro i hi
    simp [List.getD_eq_getElem?_getD, List.getElem?_append_right]
theorem own_news (o : Int) (l : List Nat) : ownIx (news o l) = [] := by
  unfold ownIx
  rw [List.filter_eq_nil_iff]
  intro i hi
  have : i < l.length := by simpa [news] using hi
  simp [news, List.getD_eq_getElem?_getD, this]
theorem own_mkP (i : Int) (p : Pc) : ownIx (mkP i p) = [p.b.length] := by
  unfold mkP
  rw [own_app, own_news, List.nil_append]
  have h1 : ownIx (⟨i, true, p.s⟩ :: news i p.a) = ownIx [⟨i, true, p.s⟩] ++ (ownIx (news i p.a)).map (· + 1) := own_app [⟨i, true, p.s⟩] _
  rw [h1, own_news]
  simp [ownIx, List.range_succ, news]
theorem filt_news (o i : Int) (l : List Nat) : (news o l).filter (fun x => decide (x.o = i)) = if o = i then news o l else [] := by
  by_cases h : o = i
  · rw [if_pos h, List.filter_eq_self]
    intro x hx
    obtain ⟨c, _, rfl⟩ := List.mem_map.mp hx
    simpa using h
  · rw [if_neg h, List.filter_eq_nil_iff]
    intro x hx
    obtain ⟨c, _, rfl⟩ := List.mem_map.mp hx
    simpa using h
theorem filt_mkP (o i : Int) (p : Pc) : (mkP o p).filter (fun x => decide (x.o = i)) = if o = i then mkP o p else [] := by
  unfold mkP
  rw [List.filter_append, List.filter_cons, filt_news, filt_news]
  by_cases h : o = i
  · simp [h]
  · simp [h]
theorem filt_mkPs (i : Int) : ∀ (ps : List Pc) (n : Nat), (mkPs n ps).filter (fun x => decide (x.o = i)) = if (n : Int) ≤ i ∧ i < (n : Int) + ps.length then mkP i (ps.getD (i - n).toNat Pc.nil) else []
  | [], n => by rw [if_neg (by simp)]; rfl
  | p :: ps, n => by
    rw [mkPs, List.filter_append, filt_mkP, filt_mkPs i ps]
    by_cases h : (n : Int) = i
    · rw [if_pos h, if_neg (by omega), if_pos (by simp; omega), List.append_nil, ← h]; simp
    · rw [if_neg h, List.nil_append]
      by_cases h2 : ((n + 1 : Nat) : Int) ≤ i ∧ i < ((n + 1 : Nat) : Int) + ps.length
      · rw [if_pos h2, if_pos (by simp; omega)]
        have : (i - n).toNat = (i - ((n + 1 : Nat) : Int)).toNat + 1 := by omega
        rw [this, List.getD_cons_succ]
      · rw [if_neg h2, if_neg (by simp; omega)]
theorem filt_at {t : Tr} (h : t.Ok) {i : Nat} (hi : i < t.src.length) : (mkT t).filter (fun x => decide (x.o = (i : Int))) = mkP (i : Int) (t.ps.getD i Pc.nil) := by
  unfold mkT
  rw [List.filter_append, List.filter_append, filt_news, if_neg (by omega), filt_mkPs, if_pos (by rw [h.len]; omega), filt_news, if_neg (by omega)]
  simp
theorem filt_head (t : Tr) : (mkT t).filter (fun x => decide (x.o = -1)) = news (-1) t.head := by
  unfold mkT
  rw [List.filter_append, List.filter_append, filt_news, if_pos rfl, filt_mkPs, if_neg (by omega), filt_news, if_neg (by omega)]
  simp
theorem filt_tail {t : Tr} (h : t.Ok) : (mkT t).filter (fun x => decide (x.o = (t.src.length : Int))) = news (t.src.length : Int) t.tail := by
  unfold mkT
  rw [List.filter_append, List.filter_append, filt_news, if_neg (by omega), filt_mkPs, if_neg (by rw [h.len]; omega), filt_news, if_pos rfl]
  simp
/-! ### marks as data -/
theorem ix_mk {m : List Mk'} {i : Nat} (h : i < m.length) : mIx (.lst (m.map mkD)) (.int (i : Int)) = some (mkD (m.getD i ⟨0, false, []⟩)) := by
  show atI (m.map mkD) (i : Int) = _
  rw [at_int (by omega) (by simpa using h)]
  congr 1
  simp [List.getD_eq_getElem?_getD, h]
theorem ix_nats {l : List Nat} {i : Nat} (h : i < l.length) : mIx (.lst (l.map fun (i : Nat) => D.int (i : Int))) (.int (i : Int)) = some (.int (l.getD i 0 : Nat)) := ix_ints h
theorem ne_nilS (l : List Nat) : mNe (.str (tx l)) (.str "") = some (.bl (!decide (l = []))) := by
  rw [lit_nil]
  show some (D.bl (!decide (tx l = tx []))) = _
  congr 3
  exact decide_eq_decide.mpr tx_inj
theorem liv_lt {m : List Mk'} {i : Nat} (h : i ∈ liv m) : i < m.length := List.mem_range.mp (List.mem_filter.mp h).1
theorem liv_ne {m : List Mk'} {i : Nat} (h : i ∈ liv m) : (m.getD i ⟨0, false, []⟩).s ≠ [] := by
  have := (List.mem_filter.mp h).2
  simpa using this
theorem slL_mkT (m : List Mk') (i : Nat) : mSl (.lst (m.map mkD)) none (some (i : Int)) = some (.lst ((m.take i).map mkD)) := by rw [slL_take, List.map_take]
theorem slL_mkD (m : List Mk') (i : Nat) : mSl (.lst (m.map mkD)) (some (i : Int)) none = some (.lst ((m.drop i).map mkD)) := by rw [slL_drop, List.map_drop]
theorem addMk (a b : List Mk') (h : a.length + b.length ≤ 16777216) : mAdd (.lst (a.map mkD)) (.lst (b.map mkD)) = some (.lst ((a ++ b).map mkD)) := by rw [List.map_append]; exact addL (by simp; omega)
theorem lets_le (m : List Mk') (h : ∀ x ∈ m, x.s.length ≤ 1) : (lets m).length ≤ m.length := by
  induction m with
  | nil => simp [lets]
  | cons x m ih =>
    rw [lets_cons, List.length_append, List.length_cons]
    have h1 := h x (List.mem_cons_self ..)
    have h2 := ih fun y hy => h y (List.mem_cons_of_mem _ hy)
    omega
theorem mkT_le {t : Tr} (h : t.Ok) : ∀ y ∈ mkT t, y.s.length ≤ 1 := fun y hy => by
  rcases List.mem_append.mp hy with hy | hy
  · exact one_le _ _ y hy
  · rcases List.mem_append.mp hy with hy | hy
    · exact mkPs_le _ _ h.one y hy
    · exact one_le _ _ y hy
theorem mkPs_len (ps : List Pc) : ∀ n, (mkPs n ps).length ≤ (wr ps).length + ps.length := by
  induction ps with
  | nil => intro n; simp [mkPs]
  | cons p ps ih =>
    intro n
    have := ih (n + 1)
    rw [mkPs, List.length_append, wr_cons, List.length_append, all_len]
    simp only [mkP, news, List.length_append, List.length_map, List.length_cons]
    omega
theorem mkT_len {t : Tr} (h : t.Ok) : (mkT t).length ≤ t.res.length + t.src.length := by
  have := mkPs_len t.ps 0
  unfold mkT
  simp only [news, List.length_append, List.length_map, Tr.res]
  rw [← h.len]
  omega
theorem trT_len {t : Tr} (h : t.Ok) : t.src.length ≤ (mkT t).length := by
  have key : ∀ (ps : List Pc) n, ps.length ≤ (mkPs n ps).length := by
    intro ps
    induction ps with
    | nil => intro n; simp
    | cons p ps ih => intro n; rw [mkPs, List.length_append, List.length_cons]; have := ih (n + 1); simp only [mkP, List.length_append, List.length_cons]; omega
  have := key t.ps 0
  unfold mkT
  simp only [List.length_append]
  rw [← h.len]; omega
end Y
namespace Y
open PySem PySem.Spec PyProof.Rows L2
/-! ### products of traces: units and threes -/
theorem jn_still_r {t : Tr} (ht : t.Ok) : jnT t (stillT t.res) = t := by
  have h := jn_side (t := t) (src := t.res) (h0 := []) (t0 := []) (A := t.head.map one1) (C := t.tail.map one1) ht (by simp)
  unfold stillT
  rw [res_ones, h]
  simp [wr_one]
theorem jnP_still : ∀ (l : List Nat) (ps : List Pc) (n : Nat), n + l.length = ps.length → jnP ps n (l.map one1) = ps.drop n
  | [], ps, n, h => by simp only [List.map_nil, jnP]; rw [List.drop_of_length_le (by simp at h; omega)]
  | c :: l, ps, n, h => by
    simp only [List.length_cons] at h
    have hn : n < ps.length := by omega
    rw [List.map_cons, jnP, List.drop_eq_getElem_cons hn]
    congr 1
    · unfold jnStep
      have e : ps.getD (n + (one1 c).b.length) Pc.nil = ps[n] := by
        show ps.getD (n + 0) Pc.nil = _
        rw [Nat.add_zero, List.getD_eq_getElem?_getD, List.getElem?_eq_getElem hn, Option.getD_some]
      rw [if_neg (by simp [one1]), e]
      simp [one1, wr]
    · exact jnP_still l ps (n + 1) (by omega)
theorem jn_still_l {t : Tr} (ht : t.Ok) : jnT (stillT t.src) t = t := by
  unfold jnT
  have h := jnP_still t.src t.ps 0 (by rw [ht.len]; simp)
  obtain ⟨src, head, ps, tail⟩ := t
  simp only [stillT, List.length_nil, List.take_zero, wr_nil, List.append_nil, wr_one] at h ⊢
  rw [h]
  have hl : ps.length = src.length := ht.len
  simp [← hl, wr]
theorem jnP_drop (O : List Pc) : ∀ (k : Nat) (qs : List Pc) (n : Nat), (jnP O n qs).drop k = jnP O (n + (wr (qs.take k)).length) (qs.drop k)
  | 0, qs, n => by simp [wr]
  | k + 1, [], n => by simp [jnP]
  | k + 1, q :: qs, n => by
    rw [jnP, List.drop_succ_cons, jnP_drop O k qs, List.take_succ_cons, wr_cons, List.length_append, List.drop_succ_cons, Nat.add_assoc]
theorem jnP_take (O : List Pc) : ∀ (k : Nat) (qs : List Pc) (n : Nat), (jnP O n qs).take k = jnP O n (qs.take k)
  | 0, qs, n => by simp [jnP]
  | k + 1, [], n => by simp [jnP]
  | k + 1, q :: qs, n => by
    rw [jnP, List.take_succ_cons, jnP_take O k qs, List.take_succ_cons, jnP]
theorem wr_take_add (ps : List Pc) (n k : Nat) : wr (ps.take (n + k)) = wr (ps.take n) ++ wr ((ps.drop n).take k) := by
  rw [List.take_add, wr_app]
theorem wr_take_le (ps : List Pc) (n : Nat) : (wr (ps.take n)).length ≤ (wr ps).length := by
  conv => rhs; rw [← List.take_append_drop n ps, wr_app, List.length_append]
  omega
/-- where the n-th piece of the middle trace starts in the last one -/
def off (h : Nat) (bp : List Pc) (n : Nat) : Nat := h + (wr (bp.take n)).length
theorem off_add (h : Nat) (bp : List Pc) (n k : Nat) : off h bp (n + k) = off h bp n + (wr ((bp.drop n).take k)).length := by
  unfold off; rw [wr_take_add, List.length_append, Nat.add_assoc]
theorem wr_jn_seg {bp cp : List Pc} {h : Nat} (hb : ∀ p ∈ bp, p.s.length ≤ 1) (hc : h + (wr bp).length ≤ cp.length) (n k : Nat) :
    wr (((jnP cp h bp).drop n).take k) = wr ((cp.drop (off h bp n)).take (wr ((bp.drop n).take k)).length) := by
  rw [jnP_drop, jnP_take]
  refine jn_wr cp _ _ (fun q hq => hb q (List.mem_of_mem_drop (List.mem_of_mem_take hq))) ?_
  have e := wr_take_le bp (n + k)
  rw [wr_take_add, List.length_append] at e
  omega
theorem jnP_get (O : List Pc) {qs : List Pc} {n k : Nat} (hk : k < qs.length) : (jnP O n qs).getD k Pc.nil = jnStep O (n + (wr (qs.take k)).length) qs[k] := by
  have h := jnP_drop O k qs n
  rw [List.drop_eq_getElem_cons hk, jnP] at h
  have hk' : k < (jnP O n qs).length := by rw [jn_len]; exact hk
  rw [List.drop_eq_getElem_cons hk'] at h
  rw [List.getD_eq_getElem?_getD, List.getElem?_eq_getElem hk', Option.getD_some]
  exact (List.cons.inj h).1
theorem step_assoc {bp cp : List Pc} {h n : Nat} {q : Pc} (hb : ∀ p ∈ bp, p.s.length ≤ 1) (hc : h + (wr bp).length ≤ cp.length) (hq : q.s.length ≤ 1) (hn : n + q.all.length ≤ bp.length) :
    jnStep cp (off h bp n) (jnStep bp n q) = jnStep (jnP cp h bp) n q := by
  have hl := all_len q
  have s1 := wr_jn_seg hb hc n q.b.length
  have s2 := wr_jn_seg hb hc (n + q.b.length + q.s.length) q.a.length
  by_cases hs : q.s = []
  · have e1 : jnStep bp n q = ⟨wr ((bp.drop n).take q.b.length), [], wr ((bp.drop (n + q.b.length + q.s.length)).take q.a.length)⟩ := by
      unfold jnStep; rw [if_pos hs]; simp [Pc.nil]
    have e2 : jnStep (jnP cp h bp) n q = ⟨wr (((jnP cp h bp).drop n).take q.b.length), [], wr (((jnP cp h bp).drop (n + q.b.length + q.s.length)).take q.a.length)⟩ := by
      unfold jnStep; rw [if_pos hs]; simp [Pc.nil]
    rw [e1, e2, s1, s2]
    unfold jnStep
    have ho : off h bp (n + q.b.length + q.s.length) = off h bp n + (wr ((bp.drop n).take q.b.length)).length := by
      rw [hs, List.length_nil, Nat.add_zero, off_add]
    rw [ho]
    simp [Pc.nil]
  · have h1 : q.s.length = 1 := by
      have := List.length_pos_iff.mpr hs
      omega
    have hi : n + q.b.length < bp.length := by omega
    have g1 : bp.getD (n + q.b.length) Pc.nil = bp[n + q.b.length] := by
      rw [List.getD_eq_getElem?_getD, List.getElem?_eq_getElem hi, Option.getD_some]
    have g2 := jnP_get cp (qs := bp) (n := h) hi
    have ho := off_add h bp n q.b.length
    have ho2 : off h bp (n + q.b.length + q.s.length) = off h bp (n + q.b.length) + bp[n + q.b.length].all.length := by
      rw [off_add, h1, List.drop_eq_getElem_cons hi, List.take_succ_cons, List.take_zero, wr_cons, wr_nil, List.append_nil]
    have e1 : jnStep bp n q = ⟨wr ((bp.drop n).take q.b.length) ++ bp[n + q.b.length].b, bp[n + q.b.length].s, bp[n + q.b.length].a ++ wr ((bp.drop (n + q.b.length + q.s.length)).take q.a.length)⟩ := by
      unfold jnStep; rw [if_neg hs, g1]
    have e2 : jnStep (jnP cp h bp) n q = ⟨wr (((jnP cp h bp).drop n).take q.b.length) ++ (jnStep cp (off h bp (n + q.b.length)) bp[n + q.b.length]).b, (jnStep cp (off h bp (n + q.b.length)) bp[n + q.b.length]).s, (jnStep cp (off h bp (n + q.b.length)) bp[n + q.b.length]).a ++ wr (((jnP cp h bp).drop (n + q.b.length + q.s.length)).take q.a.length)⟩ := by
      conv => lhs; unfold jnStep
      rw [if_neg hs, g2]; rfl
    rw [e1, e2, s1, s2, ho2, all_len]
    generalize bp[n + q.b.length] = o
    generalize wr ((bp.drop n).take q.b.length) = B at *
    generalize wr ((bp.drop (n + q.b.length + q.s.length)).take q.a.length) = A at *
    rw [ho]
    unfold jnStep
    simp only [List.length_append]
    have p1 : off h bp n + (B.length + o.b.length) = off h bp n + B.length + o.b.length := by omega
    rw [p1, wr_seg, wr_seg]
    have p2 : off h bp n + B.length + o.b.length + o.s.length + o.a.length = off h bp n + B.length + (o.b.length + o.s.length + o.a.length) := by omega
    rw [p2]
    simp only [List.append_assoc]
theorem jnP_assoc {bp cp : List Pc} {h : Nat} (hb : ∀ p ∈ bp, p.s.length ≤ 1) (hc : h + (wr bp).length ≤ cp.length) : ∀ (qs : List Pc) (n : Nat), (∀ q ∈ qs, q.s.length ≤ 1) → n + (wr qs).length ≤ bp.length →
    jnP cp (off h bp n) (jnP bp n qs) = jnP (jnP cp h bp) n qs
  | [], _, _, _ => rfl
  | q :: qs, n, hq, hn => by
    rw [wr_cons, List.length_append] at hn
    have h1 := hq q (List.mem_cons_self ..)
    rw [jnP, jnP, jnP, step_assoc hb hc h1 (by omega), step_all h1 (by omega), ← off_add, jnP_assoc hb hc qs (n + q.all.length) (fun p hp => hq p (List.mem_cons_of_mem _ hp)) (by omega)]
theorem jn_assoc {a b c : Tr} (ha : a.Ok) (hb : b.Ok) (hc : c.Ok) (e1 : b.src = a.res) (e2 : c.src = b.res) : jnT (jnT a b) c = jnT a (jnT b c) := by
  have l1 : b.ps.length = a.head.length + (wr a.ps).length + a.tail.length := by
    rw [hb.len, e1]; simp [Tr.res, Nat.add_assoc]
  have l2 : c.ps.length = b.head.length + (wr b.ps).length + b.tail.length := by
    rw [hc.len, e2]; simp [Tr.res, Nat.add_assoc]
  have hp := jnP_assoc (h := b.head.length) hb.one (cp := c.ps) (by omega) a.ps a.head.length ha.one (by omega)
  have w1 := jn_wr b.ps a.ps a.head.length ha.one (by omega)
  have w2 := wr_jn_seg (h := b.head.length) hb.one (cp := c.ps) (by omega) 0 a.head.length
  have w3 := wr_jn_seg (h := b.head.length) hb.one (cp := c.ps) (by omega) (a.head.length + (wr a.ps).length) b.ps.length
  have o1 : off b.head.length b.ps 0 = b.head.length := by simp [off, wr]
  rw [o1, List.drop_zero, List.drop_zero] at w2
  have hd : ((jnP c.ps b.head.length b.ps).drop (a.head.length + (wr a.ps).length)).take b.ps.length = (jnP c.ps b.head.length b.ps).drop (a.head.length + (wr a.ps).length) := List.take_of_length_le (by rw [List.length_drop, jn_len]; omega)
  have hd2 : (b.ps.drop (a.head.length + (wr a.ps).length)).take b.ps.length = b.ps.drop (a.head.length + (wr a.ps).length) := List.take_of_length_le (by rw [List.length_drop]; omega)
  rw [hd, hd2] at w3
  have o2 := off_add b.head.length b.ps a.head.length (wr a.ps).length
  have o3 : b.head.length + (wr b.ps).length = off b.head.length b.ps (a.head.length + (wr a.ps).length) + (wr (b.ps.drop (a.head.length + (wr a.ps).length))).length := by
    unfold off
    conv => lhs; rw [← List.take_append_drop (a.head.length + (wr a.ps).length) b.ps, wr_app, List.length_append]
    omega
  show Tr.mk _ _ _ _ = Tr.mk _ _ _ _
  congr 1
  · show c.head ++ wr (c.ps.take (b.head ++ wr (b.ps.take a.head.length)).length) = (c.head ++ wr (c.ps.take b.head.length)) ++ wr ((jnP c.ps b.head.length b.ps).take a.head.length)
    rw [w2, List.length_append, wr_take_add, List.append_assoc]
  · show jnP c.ps (b.head ++ wr (b.ps.take a.head.length)).length (jnP b.ps a.head.length a.ps) = jnP (jnP c.ps b.head.length b.ps) a.head.length a.ps
    rw [← hp, List.length_append]; rfl
  · show wr (c.ps.drop ((b.head ++ wr (b.ps.take a.head.length)).length + (wr (jnP b.ps a.head.length a.ps)).length)) ++ c.tail = wr ((jnP c.ps b.head.length b.ps).drop (a.head.length + (wr a.ps).length)) ++ (wr (c.ps.drop (b.head.length + (wr b.ps).length)) ++ c.tail)
    rw [w3, w1, o3, ← List.append_assoc, List.length_append]
    have o4 : b.head.length + (wr (b.ps.take a.head.length)).length + (wr ((b.ps.drop a.head.length).take (wr a.ps).length)).length = off b.head.length b.ps (a.head.length + (wr a.ps).length) := by rw [o2]; rfl
    rw [o4]
    generalize off b.head.length b.ps (a.head.length + (wr a.ps).length) = x
    generalize (wr (b.ps.drop (a.head.length + (wr a.ps).length))).length = y
    congr 1
    rw [← wr_app, ← List.drop_drop, List.take_append_drop]
theorem jn_run : ∀ (es : List Ed) (s t : Tr), s.Ok → t.Ok → t.src = s.res → (∀ e ∈ es, EdOk e) → jnT s (runT t es) = runT (jnT s t) es
  | [], _, _, _, _, _, _ => rfl
  | e :: es, s, t, hs, ht, h, he => by
    show jnT s (runT (jnT t (edT e t.res)) es) = runT (jnT (jnT s t) (edT e (jnT s t).res)) es
    have hr := jn_res hs ht h
    rw [hr, jn_assoc hs ht (ed_ok e t.res) h (ed_src e t.res)]
    exact jn_run es s _ hs (jn_ok ht (ed_ok e t.res)) h fun x hx => he x (List.mem_cons_of_mem _ hx)
theorem runT_app : ∀ (a b : List Ed) (t : Tr), runT t (a ++ b) = runT (runT t a) b
  | [], _, _ => rfl
  | e :: a, b, t => runT_app a b _
/-- the product of the traces of two scripts is the trace of both -/
theorem jn_runs {s : Tr} (hs : s.Ok) {es : List Ed} (he : ∀ e ∈ es, EdOk e) : jnT s (runT (stillT s.res) es) = runT s es := by
  rw [jn_run es s (stillT s.res) hs (still_ok _) rfl he, jn_still_r hs]
end Y
namespace Y
open PySem PySem.Spec PyProof.Rows L2
/-! ### a nice thing is equal to itself -/
theorem eq_self {n : Nat} {d : D} (h : niceN n d) (hn : n ≤ 64) : mEq d d = some (.bl true) := by
  obtain ⟨p, e1, e2⟩ := nice_shp h hn
  have e3 : PyData.eqv p p = true := SeqAt.eqv_refl p (SeqAt.canLay_of_shaped (shp_some e2).2)
  have key : ((shp d).bind fun p => (shp d).bind fun q => some (PyData.eqv p q)) = some true := by
    rw [e2, Option.bind_some, Option.bind_some, e3]
  unfold mEq eqB
  split
  · rw [decide_eq_true rfl]; rfl
  · rw [decide_eq_true rfl]; rfl
  · rw [decide_eq_true rfl]; rfl
  · rw [key]; rfl
def TrAB (t : Tr) : Prop := (∀ c ∈ t.src, AB c) ∧ ∀ c ∈ t.res, AB c
theorem nice_tx {l : List Nat} (h : ∀ c ∈ l, AB c) (n : Nat) : niceN n (.str (tx l)) := by
  have : PyData.strOk (tx l) = true := by
    unfold PyData.strOk
    rw [← Array.all_toList, List.all_eq_true]
    intro c hc
    have hc' : c ∈ l := by simpa [tx] using hc
    rcases h c hc' with rfl | rfl <;> decide
  cases n <;> exact this
theorem wr_mem2 {ps : List Pc} {p : Pc} (h : p ∈ ps) {c : Nat} (hc : c ∈ p.all) : c ∈ wr ps := by
  unfold wr
  exact List.mem_flatten.mpr ⟨p.all, List.mem_map.mpr ⟨p, h, rfl⟩, hc⟩
theorem nice_list {n : Nat} {ds : List D} (h : ∀ x ∈ ds, niceN n x) : niceN (n + 1) (.lst ds) := by unfold niceN; exact h
theorem nice_tupl {n : Nat} {ds : List D} (h : ∀ x ∈ ds, niceN n x) : niceN (n + 1) (.tup ds) := by unfold niceN; exact h
theorem nice_cons {n : Nat} {d : D} {ds : List D} (h : niceN n d) (t : ∀ x ∈ ds, niceN n x) : ∀ x ∈ d :: ds, niceN n x := fun x hx => by
  rcases List.mem_cons.mp hx with rfl | hx
  · exact h
  · exact t x hx
theorem nice_nil {n : Nat} : ∀ x ∈ ([] : List D), niceN n x := fun _ h => nomatch h
theorem nice_tr {t : Tr} (h : TrAB t) : niceN 4 (.tup [.str (tx t.src), .str (tx t.head), .lst (t.ps.map pcD), .str (tx t.tail)]) := by
  have hr := h.2
  unfold Tr.res at hr
  refine nice_tupl (nice_cons (nice_tx h.1 _) (nice_cons (nice_tx (fun c hc => hr c (by simp [hc])) _) (nice_cons (nice_list fun x hx => ?_) (nice_cons (nice_tx (fun c hc => hr c (by simp [hc])) _) nice_nil))))
  obtain ⟨p, hp, rfl⟩ := List.mem_map.mp hx
  have hw : ∀ c ∈ p.all, AB c := fun c hc => hr c (by simp [wr_mem2 hp hc])
  unfold Pc.all at hw
  exact nice_tupl (nice_cons (nice_tx (fun c hc => hw c (by simp [hc])) _) (nice_cons (nice_tx (fun c hc => hw c (by simp [hc])) _) (nice_cons (nice_tx (fun c hc => hw c (by simp [hc])) _) nice_nil)))
theorem mul2 (d : D) : mMul (.lst [d]) (.int 2) = some (.lst [d, d]) := by
  show (if (0 : Int) ≤ 2 ∧ (2 : Int) < 2 ^ 30 ∧ [d].length * (2 : Int).toNat ≤ sizeN then some (D.lst (List.replicate (2 : Int).toNat [d]).flatten) else none) = _
  rw [if_pos ⟨by decide, by decide, by show 1 * 2 ≤ 16777216; decide⟩]; rfl
theorem addEd {a b : List Ed} (h : a.length + b.length ≤ 9000) : mAdd (.lst (a.map edD)) (.lst (b.map edD)) = some (.lst ((a ++ b).map edD)) := by
  rw [List.map_append]
  exact addL (by rw [List.length_map, List.length_map]; omega)
end Y
namespace Y
open PySem PySem.Spec PyProof.Rows L2
/-! ### traces in a mirror -/
def revP (p : Pc) : Pc := ⟨p.a.reverse, p.s.reverse, p.b.reverse⟩
def revPs (ps : List Pc) : List Pc := (ps.map revP).reverse
def revT (t : Tr) : Tr := ⟨t.src.reverse, t.tail.reverse, revPs t.ps, t.head.reverse⟩
theorem revP_all (p : Pc) : (revP p).all = p.all.reverse := by simp [revP, Pc.all]
theorem revPs_app (a b : List Pc) : revPs (a ++ b) = revPs b ++ revPs a := by simp [revPs]
theorem revPs_len (a : List Pc) : (revPs a).length = a.length := by simp [revPs]
theorem wr_revPs : ∀ (ps : List Pc), wr (revPs ps) = (wr ps).reverse
  | [] => rfl
  | p :: ps => by
    have e : revPs (p :: ps) = revPs ps ++ [revP p] := by simp [revPs]
    rw [e, wr_app, wr_revPs ps, wr_cons, wr_cons, wr_nil, revP_all, List.append_nil, List.reverse_append]
theorem revT_res (t : Tr) : (revT t).res = t.res.reverse := by
  simp [Tr.res, revT, wr_revPs]
theorem revT_ok {t : Tr} (h : t.Ok) : (revT t).Ok := ⟨by simp [revT, revPs_len, h.len], fun p hp => by
  simp only [revT, revPs, List.mem_reverse] at hp
  obtain ⟨q, hq, rfl⟩ := List.mem_map.mp hp
  simpa [revP] using h.one q hq⟩
theorem rev_one (c : Nat) : revP (one1 c) = one1 c := rfl
theorem revPs_one (l : List Nat) : revPs (l.map one1) = l.reverse.map one1 := by
  simp [revPs, List.map_map, Function.comp_def, rev_one]
theorem rev_still (l : List Nat) : revT (stillT l) = stillT l.reverse := by
  simp [revT, stillT, revPs_one]
theorem chP_rev (k : Kd) (c : Nat) : revP (chP k c) = chP (miK k) c := by cases k <;> rfl
theorem rev_ed {e : Ed} (he : EdOk e) (l : List Nat) : edT (miE e) l.reverse = revT (edT e l) := by
  cases e with
  | keep => exact (rev_still l).symm
  | pre c => simp [edT, miE, revT, revPs_one]
  | app c => simp [edT, miE, revT, revPs_one]
  | at_ k p =>
    have hr : locP l.reverse ⟨p.c, p.n, !p.fr⟩ = (locP l p).map fun i => l.length - 1 - i := loc_rev he.2.2.1
    show Tr.mk _ _ _ _ = Tr.mk _ _ _ _
    simp only [edT, hr]
    congr 1
    cases hi : locP l p with
    | none => exact (revPs_one l).symm
    | some i =>
      have hlt := (locO_lt he.2.2.1 hi).1
      obtain ⟨a, b, e1, e2⟩ := split_at hlt
      simp only [Option.map_some, atPs]
      rw [getD_rev (by omega), show l.length - 1 - (l.length - 1 - i) = i by omega, ← chP_rev]
      generalize l.getD i 0 = x at *
      subst e1
      subst e2
      rw [set_mid rfl, List.reverse_append, List.reverse_cons, List.append_assoc, List.singleton_append, set_mid (by simp)]
      simp [revPs, List.map_map, Function.comp_def, rev_one]
theorem step_rev {O : List Pc} {n : Nat} {q : Pc} (hs : q.s.length ≤ 1) (hn : n + q.all.length ≤ O.length) : jnStep (revPs O) (O.length - n - q.all.length) (revP q) = revP (jnStep O n q) := by
  have hl := all_len q
  obtain ⟨A, B, S, E, C, rfl, h1, h2, h3, h4⟩ : ∃ A B S E C : List Pc, O = A ++ (B ++ (S ++ (E ++ C))) ∧ A.length = n ∧ B.length = q.b.length ∧ S.length = q.s.length ∧ E.length = q.a.length := by
    refine ⟨O.take n, (O.drop n).take q.b.length, ((O.drop n).drop q.b.length).take q.s.length, (((O.drop n).drop q.b.length).drop q.s.length).take q.a.length, (((O.drop n).drop q.b.length).drop q.s.length).drop q.a.length, ?_, ?_, ?_, ?_, ?_⟩
    · simp only [List.take_append_drop]
    · rw [List.length_take]; omega
    · rw [List.length_take, List.length_drop]; omega
    · rw [List.length_take, List.length_drop, List.length_drop]; omega
    · rw [List.length_take, List.length_drop, List.length_drop, List.length_drop]; omega
  have hk : (A ++ (B ++ (S ++ (E ++ C)))).length - n - q.all.length = (revPs C).length := by
    rw [revPs_len]
    simp only [List.length_append]
    omega
  have hO : revPs (A ++ (B ++ (S ++ (E ++ C)))) = revPs C ++ (revPs E ++ (revPs S ++ (revPs B ++ revPs A))) := by
    simp only [revPs_app, List.append_assoc]
  subst h1
  rw [hk, hO, jnStep_g (by rw [revPs_len, h4]; simp [revP]) (by rw [revPs_len, h3]; simp [revP]) (by rw [revPs_len, h2]; simp [revP]) (by simpa [revP] using hs), jnStep_g h2 h3 h4 hs, wr_revPs, wr_revPs]
  have hh : (revPs S).headD Pc.nil = revP (S.headD Pc.nil) := by
    match S, h3 with
    | [], _ => rfl
    | [x], _ => rfl
    | _ :: _ :: _, h3 => simp at h3; omega
  rw [hh]
  simp [revP]
theorem jnP_rev (O : List Pc) : ∀ (qs : List Pc) (n : Nat), (∀ q ∈ qs, q.s.length ≤ 1) → n + (wr qs).length ≤ O.length → jnP (revPs O) (O.length - n - (wr qs).length) (revPs qs) = revPs (jnP O n qs)
  | [], _, _, _ => rfl
  | q :: qs, n, h, hn => by
    rw [wr_cons, List.length_append] at hn
    have e : revPs (q :: qs) = revPs qs ++ [revP q] := by simp [revPs]
    have ih := jnP_rev O qs (n + q.all.length) (fun p hp => h p (List.mem_cons_of_mem _ hp)) (by omega)
    have st := step_rev (O := O) (n := n) (h q (List.mem_cons_self ..)) (by omega)
    have e2 : revPs (jnP O n (q :: qs)) = revPs (jnP O (n + q.all.length) qs) ++ [revP (jnStep O n q)] := by
      rw [jnP]; simp [revPs]
    rw [e2, e, jnP_app, wr_cons, List.length_append, show O.length - n - (q.all.length + (wr qs).length) = O.length - (n + q.all.length) - (wr qs).length by omega, ih]
    congr 1
    rw [wr_revPs, List.length_reverse, show O.length - (n + q.all.length) - (wr qs).length + (wr qs).length = O.length - n - q.all.length by omega]
    show [_] = [_]
    rw [st]
theorem revPs_take (O : List Pc) (k : Nat) : (revPs O).take k = revPs (O.drop (O.length - k)) := by
  unfold revPs
  rw [List.take_reverse, List.length_map, ← List.map_drop]
theorem revPs_drop (O : List Pc) (k : Nat) : (revPs O).drop k = revPs (O.take (O.length - k)) := by
  unfold revPs
  rw [List.drop_reverse, List.length_map, ← List.map_take]
theorem jn_rev {a b : Tr} (ha : a.Ok) (hb : b.Ok) (e : b.src = a.res) : jnT (revT a) (revT b) = revT (jnT a b) := by
  have l1 : b.ps.length = a.head.length + (wr a.ps).length + a.tail.length := by
    rw [hb.len, e]; simp [Tr.res, Nat.add_assoc]
  have hp := jnP_rev b.ps a.ps a.head.length ha.one (by omega)
  rw [show b.ps.length - a.head.length - (wr a.ps).length = a.tail.length by omega] at hp
  show Tr.mk _ _ _ _ = Tr.mk _ _ _ _
  congr 1
  · show b.tail.reverse ++ wr ((revPs b.ps).take a.tail.reverse.length) = (wr (b.ps.drop (a.head.length + (wr a.ps).length)) ++ b.tail).reverse
    rw [List.length_reverse, revPs_take, wr_revPs, List.reverse_append, show b.ps.length - a.tail.length = a.head.length + (wr a.ps).length by omega]
  · show jnP (revPs b.ps) a.tail.reverse.length (revPs a.ps) = revPs (jnP b.ps a.head.length a.ps)
    rw [List.length_reverse]; exact hp
  · show wr ((revPs b.ps).drop (a.tail.reverse.length + (wr (revPs a.ps)).length)) ++ b.head.reverse = (b.head ++ wr (b.ps.take a.head.length)).reverse
    rw [List.length_reverse, wr_revPs, List.length_reverse, revPs_drop, wr_revPs, List.reverse_append, show b.ps.length - (a.tail.length + (wr a.ps).length) = a.head.length by omega]
theorem run_rev : ∀ (es : List Ed) (t : Tr), t.Ok → (∀ e ∈ es, EdOk e) → runT (revT t) (es.map miE) = revT (runT t es)
  | [], _, _, _ => rfl
  | e :: es, t, ht, he => by
    have hee := he e (List.mem_cons_self ..)
    show runT (jnT (revT t) (edT (miE e) (revT t).res)) (es.map miE) = revT (runT (jnT t (edT e t.res)) es)
    rw [revT_res, rev_ed hee, jn_rev ht (ed_ok e t.res) (ed_src e t.res)]
    exact run_rev es _ (jn_ok ht (ed_ok e t.res)) fun x hx => he x (List.mem_cons_of_mem _ hx)
theorem runs_rev {es : List Ed} (he : ∀ e ∈ es, EdOk e) (l : List Nat) : runT (stillT l.reverse) (es.map miE) = revT (runT (stillT l) es) := by
  rw [← rev_still]; exact run_rev es _ (still_ok l) he
theorem miE_miE (e : Ed) : miE (miE e) = e := by
  cases e with
  | at_ k p => cases k <;> simp [miE, miK]
  | _ => rfl
theorem apEs_rev {es : List Ed} (he : ∀ e ∈ es, EdOk e) (l : List Nat) : apEs (es.map miE) l.reverse = (apEs es l).reverse := by
  have h1 := (run_ok (es.map miE) (stillT l.reverse) (still_ok _) (fun e h => by
    obtain ⟨x, hx, rfl⟩ := List.mem_map.mp h
    exact miE_ok (he x hx))).2.1
  rw [runs_rev he, revT_res, (run_ok es (stillT l) (still_ok l) he).2.1, still_res, still_res] at h1
  exact h1.symm
end Y
namespace Y
open PySem PySem.Spec PyProof.Rows L2
/-! ### traces merged -/
def mgP (c : List Nat) (p q : Pc) : Option Pc :=
  if p.s = q.s ∨ q.s = c then some ⟨p.b ++ q.b, p.s, p.a ++ q.a⟩ else if p.s = c then some ⟨p.b ++ q.b, q.s, p.a ++ q.a⟩ else none
def mgPs : List Nat → List Pc → List Pc → Option (List Pc)
  | c :: l, p :: ps, q :: qs => (mgP [c] p q).bind fun r => (mgPs l ps qs).map fun rs => r :: rs
  | _, _, _ => some []
def mgT (a b : Tr) : Option Tr := (mgPs a.src a.ps b.ps).map fun ps => ⟨a.src, a.head ++ b.head, ps, a.tail ++ b.tail⟩
theorem mgP_one (c : Nat) (p : Pc) : mgP [c] p (one1 c) = some p := by
  unfold mgP
  rw [if_pos (.inr rfl)]
  simp [one1]
theorem mgP_oneL (c : Nat) (q : Pc) : mgP [c] (one1 c) q = some q := by
  unfold mgP
  by_cases h : (one1 c).s = q.s ∨ q.s = [c]
  · rw [if_pos h]
    have : q.s = [c] := h.elim Eq.symm id
    obtain ⟨b, s, a⟩ := q
    simp only at this
    subst this
    rfl
  · rw [if_neg h, if_pos (show (one1 c).s = [c] from rfl)]; rfl
theorem mgPs_one : ∀ (l : List Nat) (ps : List Pc), ps.length = l.length → mgPs l ps (l.map one1) = some ps
  | [], [], _ => rfl
  | c :: l, p :: ps, h => by
    simp only [List.length_cons, Nat.add_right_cancel_iff] at h
    rw [List.map_cons, mgPs, mgP_one, mgPs_one l ps h]; rfl
theorem mgPs_oneL : ∀ (l : List Nat) (ps : List Pc), ps.length = l.length → mgPs l (l.map one1) ps = some ps
  | [], [], _ => rfl
  | c :: l, p :: ps, h => by
    simp only [List.length_cons, Nat.add_right_cancel_iff] at h
    rw [List.map_cons, mgPs, mgP_oneL, mgPs_oneL l ps h]; rfl
theorem mg_still {t : Tr} (h : t.Ok) : mgT t (stillT t.src) = some t := by
  unfold mgT stillT
  simp only
  rw [mgPs_one _ _ h.len]
  simp
theorem mg_stillL {t : Tr} (h : t.Ok) : mgT (stillT t.src) t = some t := by
  unfold mgT stillT
  simp only
  rw [mgPs_oneL _ _ h.len]
  simp
theorem mgPs_len : ∀ (l : List Nat) (ps qs rs : List Pc), ps.length = l.length → qs.length = l.length → mgPs l ps qs = some rs → rs.length = l.length
  | [], _, _, _, _, _, h => by
    unfold mgPs at h
    cases h; rfl
  | c :: l, p :: ps, q :: qs, rs, h1, h2, h => by
    simp only [List.length_cons, Nat.add_right_cancel_iff] at h1 h2
    rw [mgPs] at h
    obtain ⟨r, hr, h⟩ := Option.bind_eq_some_iff.mp h
    obtain ⟨rs', hrs, rfl⟩ := Option.map_eq_some_iff.mp h
    rw [List.length_cons, mgPs_len l ps qs rs' h1 h2 hrs, List.length_cons]
/-- piece by piece -/
theorem mgPs_get : ∀ (l : List Nat) (ps qs rs : List Pc), ps.length = l.length → qs.length = l.length → mgPs l ps qs = some rs → ∀ i, i < l.length → mgP [l.getD i 0] (ps.getD i Pc.nil) (qs.getD i Pc.nil) = some (rs.getD i Pc.nil)
  | [], _, _, _, _, _, _, i, hi => by simp at hi
  | c :: l, p :: ps, q :: qs, rs, h1, h2, h, i, hi => by
    simp only [List.length_cons, Nat.add_right_cancel_iff] at h1 h2
    rw [mgPs] at h
    obtain ⟨r, hr, h⟩ := Option.bind_eq_some_iff.mp h
    obtain ⟨rs', hrs, rfl⟩ := Option.map_eq_some_iff.mp h
    cases i with
    | zero => simpa using hr
    | succ i =>
      have := mgPs_get l ps qs rs' h1 h2 hrs i (by simpa using hi)
      simpa using this
theorem mgPs_of : ∀ (l : List Nat) (ps qs rs : List Pc), ps.length = l.length → qs.length = l.length → rs.length = l.length → (∀ i, i < l.length → mgP [l.getD i 0] (ps.getD i Pc.nil) (qs.getD i Pc.nil) = some (rs.getD i Pc.nil)) → mgPs l ps qs = some rs
  | [], _, _, rs, _, _, h3, _ => by
    cases rs with
    | nil => rfl
    | cons r rs => simp at h3
  | c :: l, p :: ps, q :: qs, r :: rs, h1, h2, h3, h => by
    simp only [List.length_cons, Nat.add_right_cancel_iff] at h1 h2 h3
    have h0 : mgP [c] p q = some r := by simpa using h 0 (by simp)
    rw [mgPs, h0, mgPs_of l ps qs rs h1 h2 h3 fun i hi => by simpa using h (i + 1) (by simpa using hi)]
    rfl
def mgD (a b : List Ed) : D := .obj "Merge" [("first", scD a), ("second", scD b)]
theorem eq_txt (a b : List Nat) : mEq (.str (tx a)) (.str (tx b)) = some (.bl (decide (a = b))) := by
  show some (D.bl (decide (tx a = tx b))) = _
  by_cases h : a = b
  · rw [h, decide_eq_true rfl, decide_eq_true rfl]
  · rw [decide_eq_false h, decide_eq_false fun e => h (tx_inj.mp e)]
theorem ne_txt (a b : List Nat) : mNe (.str (tx a)) (.str (tx b)) = some (.bl (!decide (a = b))) := by
  show some (D.bl (!decide (tx a = tx b))) = _
  by_cases h : a = b
  · rw [h, decide_eq_true rfl, decide_eq_true rfl]
  · rw [decide_eq_false h, decide_eq_false fun e => h (tx_inj.mp e)]
theorem enum_tx (l : List Nat) : enumOf (.str (tx l)) = some ((List.range l.length).map fun (i : Nat) => .tup [.int (i : Int), .str (tx [l.getD i 0])]) := congrArg some (num_tx l)
theorem x_enum {fa : EM} {S : SL} {w w1 : Bx} {d : D} {ds : List D} (h : fa S w = .ok d w1) (he : enumOf d = some ds) : iEnumD fa S w = .ok ds w1 := by unfold iEnumD; rw [h, R.bind_ok, he]; rfl
/-- a loop over numbers, the slots told by the number -/
theorem x_forN0 {gm : GM} {body : SM} (f : Nat → D) (I : Nat → SL → Bx → Prop) (n : Nat) (hs : ∀ i S w, i < n → I i S w → ∃ S1 S2 w2, gm (f i) S = some S1 ∧ body S1 w = .nx S2 w2 ∧ I (i + 1) S2 w2) : ∀ (k i : Nat) (S : SL) (w : Bx), i + k = n → I i S w → ∃ S2 w2, forLoop gm body ((List.range' i k).map f) S w = .nx S2 w2 ∧ I n S2 w2
  | 0, i, S, w, e, h => ⟨S, w, rfl, by rw [← e]; exact h⟩
  | k + 1, i, S, w, e, h => by
    obtain ⟨S1, S2, w2, h1, h2, h3⟩ := hs i S w (by omega) h
    obtain ⟨S3, w3, h4, h5⟩ := x_forN0 f I n hs k (i + 1) S2 w2 (by omega) h3
    refine ⟨S3, w3, ?_, h5⟩
    rw [List.range'_succ, List.map_cons]
    show (match gm (f i) S with | none => RS.bad | some S1 => _) = _
    rw [h1]
    simp only [h2]
    exact h4
theorem x_forN {gm : GM} {body : SM} (f : Nat → D) (I : Nat → SL → Bx → Prop) (n : Nat) {S : SL} {w : Bx} (h0 : I 0 S w) (hs : ∀ i S w, i < n → I i S w → ∃ S1 S2 w2, gm (f i) S = some S1 ∧ body S1 w = .nx S2 w2 ∧ I (i + 1) S2 w2) : ∃ S2 w2, forLoop gm body ((List.range n).map f) S w = .nx S2 w2 ∧ I n S2 w2 := by
  rw [List.range_eq_range']
  exact x_forN0 f I n hs n 0 S w (by omega) h0
end Y
namespace Y
open PySem PySem.Spec PyProof.Rows L2
/-! ### places are counted: what lies in which part of a row -/
theorem spots_app (A B : List Nat) (c : Nat) : spots (A ++ B) c = spots A c ++ (spots B c).map (· + A.length) := by
  unfold spots
  rw [List.length_append, List.range_add, List.filter_append, List.filter_map]
  congr 1
  · apply List.filter_congr
    intro i hi
    have := List.mem_range.mp hi
    simp [List.getD_eq_getElem?_getD, List.getElem?_append_left this]
  · rw [show (fun x => x + A.length) = (fun x => A.length + x) from funext fun x => Nat.add_comm _ _]
    congr 1
    apply List.filter_congr
    intro i hi
    simp [List.getD_eq_getElem?_getD, List.getElem?_append_right]
theorem spots_count (l : List Nat) (c : Nat) : (spots l c).length = l.count c := by
  induction l with
  | nil => rfl
  | cons x l ih =>
    rw [show x :: l = [x] ++ l from rfl, spots_app, List.length_append, List.length_map, ih, List.count_append]
    congr 1
    by_cases h : x = c
    · subst h; simp [spots, List.range_succ]
    · simp [spots, List.range_succ, h, List.count_cons]
theorem loc_appF {A B : List Nat} {c n : Nat} (h0 : 0 < n) : locO (A ++ B) c n true = if n ≤ A.count c then locO A c n true else (locO B c (n - A.count c) true).map (· + A.length) := by
  unfold locO
  rw [spots_app, List.length_append, List.length_map, spots_count, spots_count]
  by_cases h : n ≤ A.count c
  · rw [if_pos h, if_neg (show ¬ A.count c + B.count c < n by omega), if_neg (show ¬ A.count c < n by omega)]
    simp only [if_true]
    rw [List.getD_eq_getElem?_getD, List.getD_eq_getElem?_getD, List.getElem?_append_left (by rw [spots_count]; omega)]
  · rw [if_neg h]
    by_cases h2 : A.count c + B.count c < n
    · rw [if_pos h2, if_pos (show B.count c < n - A.count c by omega)]; rfl
    · rw [if_neg h2, if_neg (show ¬ B.count c < n - A.count c by omega)]
      simp only [if_true, Option.map_some]
      rw [List.getD_eq_getElem?_getD, List.getD_eq_getElem?_getD, List.getElem?_append_right (by rw [spots_count]; omega), spots_count, List.getElem?_map, show n - 1 - A.count c = n - A.count c - 1 by omega, List.getElem?_eq_getElem (by rw [spots_count]; omega)]
      rfl
theorem loc_appB {A B : List Nat} {c n : Nat} (h0 : 0 < n) : locO (A ++ B) c n false = if n ≤ B.count c then (locO B c n false).map (· + A.length) else locO A c (n - B.count c) false := by
  unfold locO
  rw [spots_app, List.length_append, List.length_map, spots_count, spots_count]
  by_cases h : n ≤ B.count c
  · rw [if_pos h, if_neg (show ¬ A.count c + B.count c < n by omega), if_neg (show ¬ B.count c < n by omega)]
    simp only [Bool.false_eq_true, if_false, Option.map_some]
    rw [List.getD_eq_getElem?_getD, List.getD_eq_getElem?_getD, List.getElem?_append_right (by rw [spots_count]; omega), spots_count, List.getElem?_map, show A.count c + B.count c - n - A.count c = B.count c - n by omega, List.getElem?_eq_getElem (by rw [spots_count]; omega)]
    rfl
  · rw [if_neg h]
    by_cases h2 : A.count c + B.count c < n
    · rw [if_pos h2, if_pos (show A.count c < n - B.count c by omega)]
    · rw [if_neg h2, if_neg (show ¬ A.count c < n - B.count c by omega)]
      simp only [Bool.false_eq_true, if_false]
      rw [List.getD_eq_getElem?_getD, List.getD_eq_getElem?_getD, List.getElem?_append_left (by rw [spots_count]; omega), show A.count c + B.count c - n = A.count c - (n - B.count c) by omega]
/-! ### an edit at a place, over marks -/
def Le1 (m : List Mk') : Prop := ∀ x ∈ m, x.s.length ≤ 1
theorem Le1.l {a b : List Mk'} (h : Le1 (a ++ b)) : Le1 a := fun x hx => h x (List.mem_append_left _ hx)
theorem Le1.r {a b : List Mk'} (h : Le1 (a ++ b)) : Le1 b := fun x hx => h x (List.mem_append_right _ hx)
theorem Le1.app {a b : List Mk'} (h : Le1 a) (k : Le1 b) : Le1 (a ++ b) := fun x hx => (List.mem_append.mp hx).elim (h x) (k x)
def atS (m : List Mk') (k : Kd) (c n : Nat) (fr : Bool) : List Mk' := match locO (lets m) c n fr with
  | none => m
  | some j => chM m ((liv m).getD j 0) k flipC
theorem split_mk : ∀ {m : List Mk'} {j : Nat}, Le1 m → j < (lets m).length → ∃ m1 x m2, m = m1 ++ x :: m2 ∧ x.s = [(lets m).getD j 0] ∧ (lets m1).length = j
  | [], j, _, h => by simp [lets] at h
  | x :: m, j, h1, h => by
    rw [lets_cons, List.length_append] at h
    have hx := h1 x (List.mem_cons_self ..)
    by_cases hj : j < x.s.length
    · have hx1 : x.s.length = 1 := by omega
      obtain ⟨c, hc⟩ := List.length_eq_one_iff.mp hx1
      refine ⟨[], x, m, rfl, ?_, by simp [lets]; omega⟩
      have : j = 0 := by omega
      subst this
      rw [lets_cons, hc]; rfl
    · obtain ⟨m1, y, m2, e, e1, e2⟩ := split_mk (m := m) (j := j - x.s.length) (fun y hy => h1 y (List.mem_cons_of_mem _ hy)) (by omega)
      refine ⟨x :: m1, y, m2, by rw [e]; rfl, ?_, by rw [lets_cons, List.length_append]; omega⟩
      rw [e1, lets_cons, List.getD_eq_getElem?_getD, List.getD_eq_getElem?_getD, List.getElem?_append_right (by omega)]
theorem atS_at {m1 m2 : List Mk'} {x : Mk'} {c n : Nat} {k : Kd} {fr : Bool} (h : Le1 m1) (hx : x.s = [c]) (hl : locO (lets (m1 ++ x :: m2)) c n fr = some (lets m1).length) : atS (m1 ++ x :: m2) k c n fr = m1 ++ chX k x c ++ m2 :=
  step_at (n := 0) (p := ⟨c, n, fr⟩) h hx hl
theorem atS_none {m : List Mk'} {k : Kd} {c n : Nat} {fr : Bool} (h : (lets m).count c < n) : atS m k c n fr = m := by
  unfold atS locO
  rw [spots_count, if_pos h]
theorem atS_ex {m : List Mk'} {c n : Nat} (k : Kd) {fr : Bool} (h : Le1 m) (h0 : 0 < n) (hn : n ≤ (lets m).count c) : ∃ m1 x m2, m = m1 ++ x :: m2 ∧ x.s = [c] ∧ locO (lets m) c n fr = some (lets m1).length ∧ atS m k c n fr = m1 ++ chX k x c ++ m2 := by
  cases hl : locO (lets m) c n fr with
  | none => unfold locO at hl; rw [spots_count, if_neg (by omega)] at hl; cases hl
  | some j =>
    obtain ⟨h1, h2⟩ := locO_lt h0 hl
    obtain ⟨m1, x, m2, rfl, e1, e2⟩ := split_mk h h1
    rw [h2] at e1
    exact ⟨m1, x, m2, rfl, e1, by rw [e2], atS_at h.l e1 (by rw [hl, e2])⟩
theorem atS_appF {A B : List Mk'} {k : Kd} {c n : Nat} (hA : Le1 A) (hB : Le1 B) (h0 : 0 < n) : atS (A ++ B) k c n true = if n ≤ (lets A).count c then atS A k c n true ++ B else A ++ atS B k c (n - (lets A).count c) true := by
  by_cases h : n ≤ (lets A).count c
  · rw [if_pos h]
    obtain ⟨m1, x, m2, rfl, e1, e2, e3⟩ := atS_ex (fr := true) k hA h0 h
    rw [e3, show m1 ++ x :: m2 ++ B = m1 ++ x :: (m2 ++ B) by simp, atS_at hA.l e1 ?_]
    · simp
    · rw [show m1 ++ x :: (m2 ++ B) = (m1 ++ x :: m2) ++ B by simp, lets_app, loc_appF h0, if_pos h, e2]
  · rw [if_neg h]
    by_cases h2 : (lets B).count c < n - (lets A).count c
    · rw [atS_none h2, atS_none (by rw [lets_app, List.count_append]; omega)]
    · obtain ⟨m1, x, m2, rfl, e1, e2, e3⟩ := atS_ex (c := c) (fr := true) k hB (show 0 < n - (lets A).count c by omega) (by omega)
      rw [e3, show A ++ (m1 ++ x :: m2) = (A ++ m1) ++ x :: m2 by simp, atS_at (hA.app hB.l) e1 ?_]
      · simp
      · rw [show (A ++ m1) ++ x :: m2 = A ++ (m1 ++ x :: m2) by simp, lets_app, loc_appF h0, if_neg h, e2, lets_app, List.length_append, Option.map_some, Nat.add_comm]
theorem atS_appB {A B : List Mk'} {k : Kd} {c n : Nat} (hA : Le1 A) (hB : Le1 B) (h0 : 0 < n) : atS (A ++ B) k c n false = if n ≤ (lets B).count c then A ++ atS B k c n false else atS A k c (n - (lets B).count c) false ++ B := by
  by_cases h : n ≤ (lets B).count c
  · rw [if_pos h]
    obtain ⟨m1, x, m2, rfl, e1, e2, e3⟩ := atS_ex (fr := false) k hB h0 h
    rw [e3, show A ++ (m1 ++ x :: m2) = (A ++ m1) ++ x :: m2 by simp, atS_at (hA.app hB.l) e1 ?_]
    · simp
    · rw [show (A ++ m1) ++ x :: m2 = A ++ (m1 ++ x :: m2) by simp, lets_app, loc_appB h0, if_pos h, e2, lets_app, List.length_append, Option.map_some, Nat.add_comm]
  · rw [if_neg h]
    by_cases h2 : (lets A).count c < n - (lets B).count c
    · rw [atS_none h2, atS_none (by rw [lets_app, List.count_append]; omega)]
    · obtain ⟨m1, x, m2, rfl, e1, e2, e3⟩ := atS_ex (c := c) (fr := false) k hA (show 0 < n - (lets B).count c by omega) (by omega)
      rw [e3, show m1 ++ x :: m2 ++ B = m1 ++ x :: (m2 ++ B) by simp, atS_at hA.l e1 ?_]
      · simp
      · rw [show m1 ++ x :: (m2 ++ B) = (m1 ++ x :: m2) ++ B by simp, lets_app, loc_appB h0, if_neg h, e2]
/-! what an edit does to the numbers -/
def delK (k : Kd) (c d : Nat) : Nat := match k with
  | .bef _ => 0
  | .aft _ => 0
  | _ => if d = c then 1 else 0
def addK (k : Kd) (c d : Nat) : Nat := match k with
  | .bef x => if d = x then 1 else 0
  | .aft x => if d = x then 1 else 0
  | .rem => 0
  | .flp => if d = flipC c then 1 else 0
theorem chX_count (k : Kd) (x : Mk') {c : Nat} (hx : x.s = [c]) (d : Nat) : (lets (chX k x c)).count d + delK k c d = (if d = c then 1 else 0) + addK k c d := by
  have e : ∀ u : Nat, [u].count d = if d = u then 1 else 0 := fun u => by
    by_cases h : d = u
    · subst h; simp
    · rw [if_neg h]; exact List.count_eq_zero.mpr (by simp [h])
  cases k with
  | bef y => simp only [chX, lets_cons, hx, delK, addK, List.count_append, e]; simp [lets]; omega
  | aft y => simp only [chX, lets_cons, hx, delK, addK, List.count_append, e]; simp [lets]
  | rem =>
    simp only [chX, delK, addK]
    split <;> simp [lets]
  | flp => simp only [chX, lets_cons, delK, addK, List.count_append, e]; simp [lets]; omega
theorem atS_count {m : List Mk'} {k : Kd} {c n : Nat} {fr : Bool} (h : Le1 m) (h0 : 0 < n) (hn : n ≤ (lets m).count c) (d : Nat) : (lets (atS m k c n fr)).count d + delK k c d = (lets m).count d + addK k c d := by
  obtain ⟨m1, x, m2, rfl, e1, _, e3⟩ := atS_ex (fr := fr) k h h0 hn
  have := chX_count k x e1 d
  rw [e3]
  simp only [lets_app, lets_cons, List.count_append, e1]
  have e : [c].count d = if d = c then 1 else 0 := by
    by_cases h : d = c
    · subst h; simp
    · rw [if_neg h]; exact List.count_eq_zero.mpr (by simp [h])
  omega
theorem chX_o (k : Kd) (x : Mk') (c : Nat) : ∀ y ∈ chX k x c, y.o = x.o := fun y hy => by
  cases k with
  | bef d => simp only [chX, List.mem_cons, List.not_mem_nil, or_false] at hy; rcases hy with rfl | rfl <;> rfl
  | aft d => simp only [chX, List.mem_cons, List.not_mem_nil, or_false] at hy; rcases hy with rfl | rfl <;> rfl
  | rem =>
    simp only [chX] at hy
    split at hy
    · simp only [List.mem_cons, List.not_mem_nil, or_false] at hy; subst hy; rfl
    · nomatch hy
  | flp => simp only [chX, List.mem_cons, List.not_mem_nil, or_false] at hy; subst hy; rfl
theorem chX_le (k : Kd) (x : Mk') (c : Nat) (hx : x.s = [c]) : Le1 (chX k x c) := fun y hy => by
  cases k with
  | bef d => simp only [chX, List.mem_cons, List.not_mem_nil, or_false] at hy; rcases hy with rfl | rfl <;> simp [hx]
  | aft d => simp only [chX, List.mem_cons, List.not_mem_nil, or_false] at hy; rcases hy with rfl | rfl <;> simp [hx]
  | rem =>
    simp only [chX] at hy
    split at hy
    · simp only [List.mem_cons, List.not_mem_nil, or_false] at hy; subst hy; simp
    · nomatch hy
  | flp => simp only [chX, List.mem_cons, List.not_mem_nil, or_false] at hy; subst hy; simp
theorem atS_keep {m : List Mk'} {k : Kd} {c n : Nat} {fr : Bool} (P : Int → Prop) (h : Le1 m) (h0 : 0 < n) (hp : ∀ x ∈ m, P x.o) : Le1 (atS m k c n fr) ∧ ∀ x ∈ atS m k c n fr, P x.o := by
  by_cases hn : n ≤ (lets m).count c
  · obtain ⟨m1, x, m2, rfl, e1, _, e3⟩ := atS_ex (fr := fr) k h h0 hn
    rw [e3]
    refine ⟨(h.l.app (chX_le k x c e1)).app fun y hy => h y (by simp [hy]), fun y hy => ?_⟩
    rcases List.mem_append.mp hy with hy | hy
    · rcases List.mem_append.mp hy with hy | hy
      · exact hp y (by simp [hy])
      · rw [chX_o k x c y hy]; exact hp x (by simp)
    · exact hp y (by simp [hy])
  · rw [atS_none (by omega)]; exact ⟨h, hp⟩
/-! without the owner -/
def strip (x : Mk') : Mk' := ⟨0, x.w, x.s⟩
theorem lets_strip (m : List Mk') : lets (m.map strip) = lets m := by
  unfold lets
  rw [List.map_map]; rfl
theorem getD_strip (m : List Mk') (i : Nat) : (m.map strip).getD i ⟨0, false, []⟩ = strip (m.getD i ⟨0, false, []⟩) := by
  simp only [List.getD_eq_getElem?_getD, List.getElem?_map]
  cases m[i]? <;> rfl
theorem liv_strip (m : List Mk') : liv (m.map strip) = liv m := by
  unfold liv
  rw [List.length_map]
  apply List.filter_congr
  intro i _
  rw [getD_strip]; rfl
theorem chM_strip (m : List Mk') (i : Nat) (k : Kd) (f : Nat → Nat) : chM (m.map strip) i k f = (chM m i k f).map strip := by
  cases k with
  | bef c => simp only [chM, getD_strip, List.map_append, List.map_cons, List.map_take, List.map_drop]; rfl
  | aft c => simp only [chM, getD_strip, List.map_append, List.map_cons, List.map_take, List.map_drop]; rfl
  | rem =>
    simp only [chM, getD_strip]
    show (if (m.getD i ⟨0, false, []⟩).w = true then _ else _) = _
    split
    · simp only [List.map_append, List.map_cons, List.map_take, List.map_drop]; rfl
    · simp only [List.map_append, List.map_take, List.map_drop]
  | flp => simp only [chM, getD_strip, List.map_append, List.map_cons, List.map_take, List.map_drop]; rfl
theorem atS_strip (m : List Mk') (k : Kd) (c n : Nat) (fr : Bool) : atS (m.map strip) k c n fr = (atS m k c n fr).map strip := by
  unfold atS
  rw [lets_strip, liv_strip]
  cases locO (lets m) c n fr with
  | none => rfl
  | some j => exact chM_strip ..
/-! ### two rows, seen from one symbol -/
structure Zn (o N : Int) (A B C : List Mk') : Prop where
  a : Le1 A
  b : Le1 B
  c : Le1 C
  oa : ∀ x ∈ A, x.o ≠ o
  ob : ∀ x ∈ B, x.o = o
  oc : ∀ x ∈ C, x.o ≠ o
  h : o = -1 → A = []
  t : o = N → C = []
  n : 0 ≤ N
structure Sim (R : Nat) (A B C A' B' C' : List Mk') : Prop where
  b : B.map strip = B'.map strip
  l : ∀ d, min ((lets A).count d) R = min ((lets A').count d) R
  r : ∀ d, min ((lets C).count d) R = min ((lets C').count d) R
theorem zone_step {A A' : List Mk'} {k : Kd} {c n R : Nat} {fr : Bool} (hA : Le1 A) (hA' : Le1 A') (h0 : 0 < n) (hn : n ≤ R + 1) (h : ∀ d, min ((lets A).count d) (R + 1) = min ((lets A').count d) (R + 1)) (d : Nat) :
    min ((lets (atS A k c n fr)).count d) R = min ((lets (atS A' k c n fr)).count d) R := by
  have hc := h c
  have hd := h d
  by_cases q : n ≤ (lets A).count c
  · have q' : n ≤ (lets A').count c := by omega
    have e := atS_count (k := k) (fr := fr) hA h0 q d
    have e' := atS_count (k := k) (fr := fr) hA' h0 q' d
    have hdel : delK k c d ≤ 1 ∧ (delK k c d = 1 → d = c) := by
      cases k <;> simp only [delK]
      · exact ⟨by omega, fun h => by omega⟩
      · exact ⟨by omega, fun h => by omega⟩
      · split <;> exact ⟨by omega, fun h => by first | assumption | omega⟩
      · split <;> exact ⟨by omega, fun h => by first | assumption | omega⟩
    have : delK k c d = 0 ∨ (delK k c d = 1 ∧ d = c) := by
      rcases Nat.lt_or_ge (delK k c d) 1 with z | z
      · exact .inl (by omega)
      · exact .inr ⟨by omega, hdel.2 (by omega)⟩
    rcases this with z | ⟨z, rfl⟩
    · omega
    · omega
  · rw [atS_none (by omega), atS_none (by omega)]; omega
theorem filt_zn {o N : Int} {A B C : List Mk'} (z : Zn o N A B C) : (A ++ (B ++ C)).filter (fun x => decide (x.o = o)) = B := by
  rw [List.filter_append, List.filter_append, List.filter_eq_nil_iff.mpr fun x hx => by simp [z.oa x hx], List.filter_eq_self.mpr fun x hx => by simp [z.ob x hx], List.filter_eq_nil_iff.mpr fun x hx => by simp [z.oc x hx]]
  simp
theorem count_cons_lets (x : Mk') (A : List Mk') (d : Nat) : (lets (x :: A)).count d = x.s.count d + (lets A).count d := by rw [lets_cons, List.count_append]
theorem step_sim {o N o' N' : Int} {n n' : Nat} {A B C A' B' C' : List Mk'} {R : Nat} {e : Ed} (z : Zn o N A B C) (z' : Zn o' N' A' B' C') (hN : N = (n : Int)) (hN' : N' = (n' : Int)) (hh : o = -1 ↔ o' = -1) (ht : o = N ↔ o' = N') (s : Sim (R + 1) A B C A' B' C') (he : Ed12 e) (hR : 1 ≤ R) :
    ∃ A1 B1 C1 A2 B2 C2, mkStep (A ++ (B ++ C)) e n = A1 ++ (B1 ++ C1) ∧ mkStep (A' ++ (B' ++ C')) e n' = A2 ++ (B2 ++ C2) ∧ Zn o N A1 B1 C1 ∧ Zn o' N' A2 B2 C2 ∧ Sim R A1 B1 C1 A2 B2 C2 := by
  have lo : ∀ d, min ((lets A).count d) R = min ((lets A').count d) R := fun d => by have := s.l d; omega
  have ro : ∀ d, min ((lets C).count d) R = min ((lets C').count d) R := fun d => by have := s.r d; omega
  cases e with
  | keep => exact ⟨A, B, C, A', B', C', rfl, rfl, z, z', s.b, lo, ro⟩
  | pre c =>
    by_cases q : o = -1
    · have q' := hh.mp q
      refine ⟨[], ⟨-1, false, [c]⟩ :: B, C, [], ⟨-1, false, [c]⟩ :: B', C', by rw [z.h q]; rfl, by rw [z'.h q']; rfl, ⟨(fun _ h => nomatch h), ?_, z.c, (fun _ h => nomatch h), ?_, z.oc, fun _ => rfl, z.t, z.n⟩, ⟨(fun _ h => nomatch h), ?_, z'.c, (fun _ h => nomatch h), ?_, z'.oc, fun _ => rfl, z'.t, z'.n⟩, ?_, fun d => rfl, ro⟩
      · intro x hx; rcases List.mem_cons.mp hx with rfl | hx
        · simp
        · exact z.b x hx
      · intro x hx; rcases List.mem_cons.mp hx with rfl | hx
        · exact q.symm
        · exact z.ob x hx
      · intro x hx; rcases List.mem_cons.mp hx with rfl | hx
        · simp
        · exact z'.b x hx
      · intro x hx; rcases List.mem_cons.mp hx with rfl | hx
        · exact q'.symm
        · exact z'.ob x hx
      · rw [List.map_cons, List.map_cons, s.b]
    · have q' : ¬ o' = -1 := fun h => q (hh.mpr h)
      refine ⟨⟨-1, false, [c]⟩ :: A, B, C, ⟨-1, false, [c]⟩ :: A', B', C', rfl, rfl, ⟨?_, z.b, z.c, ?_, z.ob, z.oc, fun h => absurd h q, z.t, z.n⟩, ⟨?_, z'.b, z'.c, ?_, z'.ob, z'.oc, fun h => absurd h q', z'.t, z'.n⟩, s.b, fun d => ?_, ro⟩
      · intro x hx; rcases List.mem_cons.mp hx with rfl | hx
        · simp
        · exact z.a x hx
      · intro x hx; rcases List.mem_cons.mp hx with rfl | hx
        · exact fun h => q h.symm
        · exact z.oa x hx
      · intro x hx; rcases List.mem_cons.mp hx with rfl | hx
        · simp
        · exact z'.a x hx
      · intro x hx; rcases List.mem_cons.mp hx with rfl | hx
        · exact fun h => q' h.symm
        · exact z'.oa x hx
      · rw [count_cons_lets, count_cons_lets]
        have := lo d
        omega
  | app c =>
    have hadd : ∀ (m : List Mk') (i : Int), (lets (m ++ [⟨i, false, [c]⟩])) = lets m ++ [c] := fun m i => by rw [lets_app]; rfl
    by_cases q : o = N
    · have q' := ht.mp q
      refine ⟨A, B ++ [⟨N, false, [c]⟩], [], A', B' ++ [⟨N', false, [c]⟩], [], ?_, ?_, ⟨z.a, ?_, (fun _ h => nomatch h), z.oa, ?_, (fun _ h => nomatch h), z.h, fun _ => rfl, z.n⟩, ⟨z'.a, ?_, (fun _ h => nomatch h), z'.oa, ?_, (fun _ h => nomatch h), z'.h, fun _ => rfl, z'.n⟩, ?_, lo, fun d => rfl⟩
      · show (A ++ (B ++ C)) ++ [⟨(n : Int), false, [c]⟩] = _
        rw [z.t q, hN]; simp
      · show (A' ++ (B' ++ C')) ++ [⟨(n' : Int), false, [c]⟩] = _
        rw [z'.t q', hN']; simp
      · exact z.b.app fun x hx => by simp only [List.mem_singleton] at hx; subst hx; simp
      · intro x hx; rcases List.mem_append.mp hx with hx | hx
        · exact z.ob x hx
        · simp only [List.mem_singleton] at hx; subst hx; exact q.symm
      · exact z'.b.app fun x hx => by simp only [List.mem_singleton] at hx; subst hx; simp
      · intro x hx; rcases List.mem_append.mp hx with hx | hx
        · exact z'.ob x hx
        · simp only [List.mem_singleton] at hx; subst hx; exact q'.symm
      · rw [List.map_append, List.map_append, s.b]; rfl
    · have q' : ¬ o' = N' := fun h => q (ht.mpr h)
      refine ⟨A, B, C ++ [⟨N, false, [c]⟩], A', B', C' ++ [⟨N', false, [c]⟩], ?_, ?_, ⟨z.a, z.b, ?_, z.oa, z.ob, ?_, z.h, fun h => absurd h q, z.n⟩, ⟨z'.a, z'.b, ?_, z'.oa, z'.ob, ?_, z'.h, fun h => absurd h q', z'.n⟩, s.b, lo, fun d => ?_⟩
      · show (A ++ (B ++ C)) ++ [⟨(n : Int), false, [c]⟩] = _
        rw [hN]; simp
      · show (A' ++ (B' ++ C')) ++ [⟨(n' : Int), false, [c]⟩] = _
        rw [hN']; simp
      · exact z.c.app fun x hx => by simp only [List.mem_singleton] at hx; subst hx; simp
      · intro x hx; rcases List.mem_append.mp hx with hx | hx
        · exact z.oc x hx
        · simp only [List.mem_singleton] at hx; subst hx; exact fun h => q h.symm
      · exact z'.c.app fun x hx => by simp only [List.mem_singleton] at hx; subst hx; simp
      · intro x hx; rcases List.mem_append.mp hx with hx | hx
        · exact z'.oc x hx
        · simp only [List.mem_singleton] at hx; subst hx; exact fun h => q' h.symm
      · rw [hadd, hadd, List.count_append, List.count_append]
        have := ro d
        omega
  | at_ k p =>
    obtain ⟨c, num, fr⟩ := p
    have h0 : 0 < num := he.1.2.2.1
    have h2 : num ≤ 2 := he.2
    have kA := fun (j : Nat) (hj : 0 < j) => atS_keep (k := k) (c := c) (n := j) (fr := fr) (· ≠ o) z.a hj z.oa
    have kB := fun (j : Nat) (hj : 0 < j) => atS_keep (k := k) (c := c) (n := j) (fr := fr) (· = o) z.b hj z.ob
    have kC := fun (j : Nat) (hj : 0 < j) => atS_keep (k := k) (c := c) (n := j) (fr := fr) (· ≠ o) z.c hj z.oc
    have kA' := fun (j : Nat) (hj : 0 < j) => atS_keep (k := k) (c := c) (n := j) (fr := fr) (· ≠ o') z'.a hj z'.oa
    have kB' := fun (j : Nat) (hj : 0 < j) => atS_keep (k := k) (c := c) (n := j) (fr := fr) (· = o') z'.b hj z'.ob
    have kC' := fun (j : Nat) (hj : 0 < j) => atS_keep (k := k) (c := c) (n := j) (fr := fr) (· ≠ o') z'.c hj z'.oc
    have nil : ∀ (j : Nat), 0 < j → atS [] k c j fr = [] := fun j hj => atS_none (by simpa [lets] using hj)
    have cB : (lets B).count c = (lets B').count c := by rw [← lets_strip B, s.b, lets_strip]
    have la := s.l c
    have lc := s.r c
    have eB : ∀ j, (atS B k c j fr).map strip = (atS B' k c j fr).map strip := fun j => by rw [← atS_strip, ← atS_strip, s.b]
    -- the three ways
    have wA : ∀ j, 0 < j → j ≤ 2 → Zn o N (atS A k c j fr) B C ∧ Zn o' N' (atS A' k c j fr) B' C' ∧ Sim R (atS A k c j fr) B C (atS A' k c j fr) B' C' := fun j hj hj2 =>
      ⟨⟨(kA j hj).1, z.b, z.c, (kA j hj).2, z.ob, z.oc, fun h => by rw [z.h h]; exact nil j hj, z.t, z.n⟩, ⟨(kA' j hj).1, z'.b, z'.c, (kA' j hj).2, z'.ob, z'.oc, fun h => by rw [z'.h h]; exact nil j hj, z'.t, z'.n⟩, s.b, zone_step z.a z'.a hj (by omega) s.l, ro⟩
    have wB : ∀ j, 0 < j → Zn o N A (atS B k c j fr) C ∧ Zn o' N' A' (atS B' k c j fr) C' ∧ Sim R A (atS B k c j fr) C A' (atS B' k c j fr) C' := fun j hj =>
      ⟨⟨z.a, (kB j hj).1, z.c, z.oa, (kB j hj).2, z.oc, z.h, z.t, z.n⟩, ⟨z'.a, (kB' j hj).1, z'.c, z'.oa, (kB' j hj).2, z'.oc, z'.h, z'.t, z'.n⟩, eB j, lo, ro⟩
    have wC : ∀ j, 0 < j → j ≤ 2 → Zn o N A B (atS C k c j fr) ∧ Zn o' N' A' B' (atS C' k c j fr) ∧ Sim R A B (atS C k c j fr) A' B' (atS C' k c j fr) := fun j hj hj2 =>
      ⟨⟨z.a, z.b, (kC j hj).1, z.oa, z.ob, (kC j hj).2, z.h, fun h => by rw [z.t h]; exact nil j hj, z.n⟩, ⟨z'.a, z'.b, (kC' j hj).1, z'.oa, z'.ob, (kC' j hj).2, z'.h, fun h => by rw [z'.t h]; exact nil j hj, z'.n⟩, s.b, lo, zone_step z.c z'.c hj (by omega) s.r⟩
    cases fr with
    | true =>
      have E : mkStep (A ++ (B ++ C)) (.at_ k ⟨c, num, true⟩) n = if num ≤ (lets A).count c then atS A k c num true ++ (B ++ C) else A ++ (if num - (lets A).count c ≤ (lets B).count c then atS B k c (num - (lets A).count c) true ++ C else B ++ atS C k c (num - (lets A).count c - (lets B).count c) true) := by
        show atS (A ++ (B ++ C)) k c num true = _
        rw [atS_appF z.a (z.b.app z.c) h0]
        split
        · rfl
        · rw [atS_appF z.b z.c (by omega)]
      have E' : mkStep (A' ++ (B' ++ C')) (.at_ k ⟨c, num, true⟩) n' = if num ≤ (lets A').count c then atS A' k c num true ++ (B' ++ C') else A' ++ (if num - (lets A').count c ≤ (lets B').count c then atS B' k c (num - (lets A').count c) true ++ C' else B' ++ atS C' k c (num - (lets A').count c - (lets B').count c) true) := by
        show atS (A' ++ (B' ++ C')) k c num true = _
        rw [atS_appF z'.a (z'.b.app z'.c) h0]
        split
        · rfl
        · rw [atS_appF z'.b z'.c (by omega)]
      by_cases q : num ≤ (lets A).count c
      · rw [if_pos q] at E; rw [if_pos (by omega)] at E'
        obtain ⟨w1, w2, w3⟩ := wA num h0 h2
        exact ⟨_, _, _, _, _, _, E, E', w1, w2, w3⟩
      · have ea : (lets A').count c = (lets A).count c := by omega
        rw [if_neg q] at E; rw [if_neg (by omega), ea, ← cB] at E'
        by_cases q2 : num - (lets A).count c ≤ (lets B).count c
        · rw [if_pos q2] at E E'
          obtain ⟨w1, w2, w3⟩ := wB (num - (lets A).count c) (by omega)
          exact ⟨_, _, _, _, _, _, E, E', w1, w2, w3⟩
        · rw [if_neg q2] at E E'
          obtain ⟨w1, w2, w3⟩ := wC (num - (lets A).count c - (lets B).count c) (by omega) (by omega)
          exact ⟨_, _, _, _, _, _, E, E', w1, w2, w3⟩
    | false =>
      have E : mkStep (A ++ (B ++ C)) (.at_ k ⟨c, num, false⟩) n = if num ≤ (lets C).count c then A ++ (B ++ atS C k c num false) else if num - (lets C).count c ≤ (lets B).count c then A ++ (atS B k c (num - (lets C).count c) false ++ C) else atS A k c (num - (lets C).count c - (lets B).count c) false ++ (B ++ C) := by
        show atS (A ++ (B ++ C)) k c num false = _
        rw [← List.append_assoc, atS_appB (z.a.app z.b) z.c h0]
        split
        · rw [List.append_assoc]
        · rw [atS_appB z.a z.b (by omega)]
          split <;> rw [List.append_assoc]
      have E' : mkStep (A' ++ (B' ++ C')) (.at_ k ⟨c, num, false⟩) n' = if num ≤ (lets C').count c then A' ++ (B' ++ atS C' k c num false) else if num - (lets C').count c ≤ (lets B').count c then A' ++ (atS B' k c (num - (lets C').count c) false ++ C') else atS A' k c (num - (lets C').count c - (lets B').count c) false ++ (B' ++ C') := by
        show atS (A' ++ (B' ++ C')) k c num false = _
        rw [← List.append_assoc, atS_appB (z'.a.app z'.b) z'.c h0]
        split
        · rw [List.append_assoc]
        · rw [atS_appB z'.a z'.b (by omega)]
          split <;> rw [List.append_assoc]
      by_cases q : num ≤ (lets C).count c
      · rw [if_pos q] at E; rw [if_pos (by omega)] at E'
        obtain ⟨w1, w2, w3⟩ := wC num h0 h2
        exact ⟨_, _, _, _, _, _, E, E', w1, w2, w3⟩
      · have ec : (lets C').count c = (lets C).count c := by omega
        rw [if_neg q] at E; rw [if_neg (by omega), ec, ← cB] at E'
        by_cases q2 : num - (lets C).count c ≤ (lets B).count c
        · rw [if_pos q2] at E E'
          obtain ⟨w1, w2, w3⟩ := wB (num - (lets C).count c) (by omega)
          exact ⟨_, _, _, _, _, _, E, E', w1, w2, w3⟩
        · rw [if_neg q2] at E E'
          obtain ⟨w1, w2, w3⟩ := wA (num - (lets C).count c - (lets B).count c) (by omega) (by omega)
          exact ⟨_, _, _, _, _, _, E, E', w1, w2, w3⟩
theorem run_sim {o N o' N' : Int} {n n' : Nat} (hN : N = (n : Int)) (hN' : N' = (n' : Int)) (hh : o = -1 ↔ o' = -1) (ht : o = N ↔ o' = N') : ∀ (es : List Ed) (A B C A' B' C' : List Mk'), (∀ e ∈ es, Ed12 e) → Zn o N A B C → Zn o' N' A' B' C' → Sim (es.length + 1) A B C A' B' C' →
    ((es.foldl (fun m e => mkStep m e n) (A ++ (B ++ C))).filter (fun x => decide (x.o = o))).map strip = ((es.foldl (fun m e => mkStep m e n') (A' ++ (B' ++ C'))).filter (fun x => decide (x.o = o'))).map strip
  | [], A, B, C, A', B', C', _, z, z', s => by
    show ((A ++ (B ++ C)).filter _).map strip = ((A' ++ (B' ++ C')).filter _).map strip
    rw [filt_zn z, filt_zn z', s.b]
  | e :: es, A, B, C, A', B', C', h, z, z', s => by
    obtain ⟨A1, B1, C1, A2, B2, C2, e1, e2, z1, z2, s1⟩ := step_sim (n := n) (n' := n') z z' hN hN' hh ht s (h e (List.mem_cons_self ..)) (by simp)
    rw [List.foldl_cons, List.foldl_cons, e1, e2]
    exact run_sim hN hN' hh ht es _ _ _ _ _ _ (fun x hx => h x (List.mem_cons_of_mem _ hx)) z1 z2 s1
theorem mkP_inj {i j : Int} : ∀ {b b' s s' a a' : List Nat}, (mkP i ⟨b, s, a⟩).map strip = (mkP j ⟨b', s', a'⟩).map strip → b = b' ∧ s = s' ∧ a = a' := by
  have hn : ∀ {a a' : List Nat}, (news i a).map strip = (news j a').map strip → a = a' := fun {a a'} h => by
    have := congrArg lets h
    rwa [lets_strip, lets_strip, lets_news, lets_news] at this
  intro b
  induction b with
  | nil =>
    intro b' s s' a a' h
    cases b' with
    | nil =>
      simp only [mkP, news, List.map_nil, List.nil_append, List.map_cons, List.cons.injEq] at h
      refine ⟨rfl, congrArg Mk'.s h.1, hn h.2⟩
    | cons y b' =>
      simp only [mkP, news, List.map_nil, List.nil_append, List.map_cons, List.cons_append, List.cons.injEq] at h
      exact absurd (congrArg Mk'.w h.1) (by simp [strip])
  | cons x b ih =>
    intro b' s s' a a' h
    cases b' with
    | nil =>
      simp only [mkP, news, List.map_nil, List.nil_append, List.map_cons, List.cons_append, List.cons.injEq] at h
      exact absurd (congrArg Mk'.w h.1) (by simp [strip])
    | cons y b' =>
      simp only [mkP, news, List.map_cons, List.cons_append, List.cons.injEq] at h
      obtain ⟨h1, h2⟩ := h
      obtain ⟨e1, e2, e3⟩ := ih (b' := b') (s := s) (s' := s') (a := a) (a' := a') (by simpa only [mkP, news] using h2)
      have := congrArg Mk'.s h1
      simp only [strip, List.cons.injEq, and_true] at this
      exact ⟨by rw [this, e1], e2, e3⟩
/-! the marks of a row -/
def mkR (n : Nat) (l : List Nat) : List Mk' := (List.range l.length).map fun i => ⟨((n + i : Nat) : Int), true, [l.getD i 0]⟩
theorem mkR_cons (n c : Nat) (l : List Nat) : mkR n (c :: l) = ⟨(n : Int), true, [c]⟩ :: mkR (n + 1) l := by
  unfold mkR
  rw [List.length_cons, List.range_succ_eq_map, List.map_cons, List.map_map]
  simp only [Nat.add_zero, List.getD_cons_zero]
  congr 1
  apply List.map_congr_left
  intro i _
  simp [Nat.add_assoc, Nat.add_comm 1]
theorem mkR_app : ∀ (a b : List Nat) (n : Nat), mkR n (a ++ b) = mkR n a ++ mkR (n + a.length) b
  | [], b, n => by simp [mkR]
  | c :: a, b, n => by rw [List.cons_append, mkR_cons, mkR_cons, mkR_app a b, List.cons_append, List.length_cons, Nat.add_assoc, Nat.add_comm 1]
theorem lets_mkR : ∀ (l : List Nat) (n : Nat), lets (mkR n l) = l
  | [], _ => rfl
  | c :: l, n => by rw [mkR_cons, lets_cons, lets_mkR l]; rfl
theorem mkR_le (l : List Nat) (n : Nat) : Le1 (mkR n l) := fun x hx => by
  obtain ⟨i, _, rfl⟩ := List.mem_map.mp hx
  simp
theorem mkR_o {l : List Nat} {n : Nat} {x : Mk'} (hx : x ∈ mkR n l) : (n : Int) ≤ x.o ∧ x.o < (n : Int) + l.length := by
  obtain ⟨i, hi, rfl⟩ := List.mem_map.mp hx
  have := List.mem_range.mp hi
  simp only
  omega
theorem still_mkR (l : List Nat) : mkT (stillT l) = mkR 0 l := by
  rw [still_mk]; unfold mkR
  apply List.map_congr_left
  intro i _
  simp
/-- two rows whose numbers agree up to R -/
def Agree (R : Nat) (u v : List Nat) : Prop := ∀ d, min (u.count d) R = min (v.count d) R
theorem Agree.mono {R R' : Nat} {u v : List Nat} (h : Agree R u v) (k : R' ≤ R) : Agree R' u v := fun d => by have := h d; omega
theorem runs_at {es : List Ed} (he : ∀ e ∈ es, Ed12 e) (l : List Nat) : es.foldl (fun m e => mkStep m e l.length) (mkR 0 l) = mkT (runT (stillT l) es) := by
  rw [← still_mkR]
  exact runs_mk es (stillT l) (still_ok l) fun e h => (he e h).1
/-- pieces are local -/
theorem loc_piece {es : List Ed} (he : ∀ e ∈ es, Ed12 e) {u v u' v' : List Nat} (c : Nat) (h1 : Agree (es.length + 1) u u') (h2 : Agree (es.length + 1) v v') :
    (runT (stillT (u ++ c :: v)) es).ps.getD u.length Pc.nil = (runT (stillT (u' ++ c :: v')) es).ps.getD u'.length Pc.nil := by
  have zn : ∀ u v : List Nat, Zn (u.length : Int) ((u ++ c :: v).length : Int) (mkR 0 u) [⟨(u.length : Int), true, [c]⟩] (mkR (u.length + 1) v) := fun u v =>
    ⟨mkR_le _ _, fun x hx => by simp only [List.mem_singleton] at hx; subst hx; simp, mkR_le _ _, fun x hx => by have := mkR_o hx; omega, fun x hx => by simp only [List.mem_singleton] at hx; subst hx; rfl, fun x hx => by have := mkR_o hx; omega, fun h => by omega, fun h => by simp at h; omega, by omega⟩
  have sp : ∀ u v : List Nat, mkR 0 (u ++ c :: v) = mkR 0 u ++ ([⟨(u.length : Int), true, [c]⟩] ++ mkR (u.length + 1) v) := fun u v => by rw [mkR_app, mkR_cons]; simp
  have e := run_sim (n := (u ++ c :: v).length) (n' := (u' ++ c :: v').length) rfl rfl (by omega) (by simp only [List.length_append, List.length_cons]; omega) es _ _ _ _ _ _ he (zn u v) (zn u' v') ⟨rfl, fun d => by rw [lets_mkR, lets_mkR]; exact h1 d, fun d => by rw [lets_mkR, lets_mkR]; exact h2 d⟩
  rw [← sp, ← sp, runs_at he, runs_at he] at e
  have he' : ∀ e ∈ es, EdOk e := fun e h => (he e h).1
  obtain ⟨o1, _, s1⟩ := run_ok es (stillT (u ++ c :: v)) (still_ok _) he'
  obtain ⟨o2, _, s2⟩ := run_ok es (stillT (u' ++ c :: v')) (still_ok _) he'
  rw [filt_at o1 (by rw [s1]; show u.length < (u ++ c :: v).length; simp), filt_at o2 (by rw [s2]; show u'.length < (u' ++ c :: v').length; simp)] at e
  generalize (runT (stillT (u ++ c :: v)) es).ps.getD u.length Pc.nil = p at *
  generalize (runT (stillT (u' ++ c :: v')) es).ps.getD u'.length Pc.nil = q at *
  obtain ⟨b, s, a⟩ := p
  obtain ⟨b', s', a'⟩ := q
  obtain ⟨e1, e2, e3⟩ := mkP_inj e
  rw [e1, e2, e3]
/-- heads are local -/
theorem loc_head {es : List Ed} (he : ∀ e ∈ es, Ed12 e) {l l' : List Nat} (h : Agree (es.length + 1) l l') : (runT (stillT l) es).head = (runT (stillT l') es).head := by
  have zn : ∀ l : List Nat, Zn (-1) (l.length : Int) [] [] (mkR 0 l) := fun l =>
    ⟨(fun _ h => nomatch h), (fun _ h => nomatch h), mkR_le _ _, (fun _ h => nomatch h), (fun _ h => nomatch h), fun x hx => by have := mkR_o hx; omega, fun _ => rfl, fun h => by omega, by omega⟩
  have e := run_sim (n := l.length) (n' := l'.length) rfl rfl Iff.rfl (by omega) es _ _ _ _ _ _ he (zn l) (zn l') ⟨rfl, fun _ => rfl, fun d => by rw [lets_mkR, lets_mkR]; exact h d⟩
  simp only [List.nil_append] at e
  rw [runs_at he, runs_at he, filt_head, filt_head] at e
  have := congrArg lets e
  rwa [lets_strip, lets_strip, lets_news, lets_news] at this
/-- tails are local -/
theorem loc_tail {es : List Ed} (he : ∀ e ∈ es, Ed12 e) {l l' : List Nat} (h : Agree (es.length + 1) l l') : (runT (stillT l) es).tail = (runT (stillT l') es).tail := by
  have zn : ∀ l : List Nat, Zn (l.length : Int) (l.length : Int) (mkR 0 l) [] [] := fun l =>
    ⟨mkR_le _ _, (fun _ h => nomatch h), (fun _ h => nomatch h), fun x hx => by have := mkR_o hx; omega, (fun _ h => nomatch h), (fun _ h => nomatch h), fun h => by omega, fun _ => rfl, by omega⟩
  have e := run_sim (n := l.length) (n' := l'.length) rfl rfl (by omega) (by omega) es _ _ _ _ _ _ he (zn l) (zn l') ⟨rfl, fun d => by rw [lets_mkR, lets_mkR]; exact h d, fun _ => rfl⟩
  simp only [List.append_nil] at e
  have he' : ∀ e ∈ es, EdOk e := fun e h => (he e h).1
  obtain ⟨o1, _, s1⟩ := run_ok es (stillT l) (still_ok _) he'
  obtain ⟨o2, _, s2⟩ := run_ok es (stillT l') (still_ok _) he'
  have q1 := filt_tail o1
  have q2 := filt_tail o2
  rw [s1] at q1
  rw [s2] at q2
  rw [runs_at he, runs_at he, show (l.length : Int) = ((stillT l).src.length : Int) from rfl, show (l'.length : Int) = ((stillT l').src.length : Int) from rfl, q1, q2] at e
  have := congrArg lets e
  rwa [lets_strip, lets_strip, lets_news, lets_news] at this
end Y
namespace Y
open PySem PySem.Spec PyProof.Rows L2
theorem flat_rep (n c : Nat) : (List.replicate n [c]).flatten = List.replicate n c := by
  induction n with
  | zero => rfl
  | succ k ih => rw [List.replicate_succ, List.flatten_cons, ih, List.replicate_succ]; rfl
theorem mul_one {c n : Nat} (h : n ≤ 16777216) : mMul (.str (tx [c])) (.int (n : Int)) = some (.str (tx (List.replicate n c))) := by
  unfold mMul
  simp only [tx_len, List.length_singleton, Nat.one_mul]
  rw [if_pos ⟨by omega, by omega, by show (n : Int).toNat ≤ 16777216; omega⟩, tx_mul, flat_rep]
  rfl
theorem mul_a {n : Nat} (h : n ≤ 16777216) : mMul (.str "a") (.int (n : Int)) = some (.str (tx (List.replicate n 97))) := by rw [lit_a]; exact mul_one h
theorem mul_b {n : Nat} (h : n ≤ 16777216) : mMul (.str "b") (.int (n : Int)) = some (.str (tx (List.replicate n 98))) := by rw [lit_b]; exact mul_one h
/-- a row with a tally -/
def smp (p q : Nat) : List Nat := List.replicate p 97 ++ List.replicate q 98
theorem smp_len (p q : Nat) : (smp p q).length = p + q := by simp [smp]
theorem smp_ab (p q : Nat) : ∀ c ∈ smp p q, AB c := fun c hc => by
  rcases List.mem_append.mp hc with h | h
  · rw [List.eq_of_mem_replicate h]; exact .inl rfl
  · rw [List.eq_of_mem_replicate h]; exact .inr rfl
theorem smp_a (p q : Nat) : (smp p q).count 97 = p := by simp [smp, List.count_replicate]
theorem smp_b (p q : Nat) : (smp p q).count 98 = q := by simp [smp, List.count_replicate]
theorem count_off {l : List Nat} (h : ∀ c ∈ l, AB c) {d : Nat} (hd : ¬ AB d) : l.count d = 0 := List.count_eq_zero.mpr fun hm => hd (h d hm)
/-- a row and its tally -/
theorem agree_ab {R : Nat} {u v : List Nat} (hu : ∀ c ∈ u, AB c) (hv : ∀ c ∈ v, AB c) (ha : min (u.count 97) R = min (v.count 97) R) (hb : min (u.count 98) R = min (v.count 98) R) : Agree R u v := fun d => by
  by_cases h : AB d
  · rcases h with rfl | rfl
    · exact ha
    · exact hb
  · rw [count_off hu h, count_off hv h]
theorem agree_smp {R p q : Nat} {l : List Nat} (hl : ∀ c ∈ l, AB c) (ha : l.count 97 = p ∨ (R ≤ p ∧ p ≤ l.count 97)) (hb : l.count 98 = q ∨ (R ≤ q ∧ q ≤ l.count 98)) : Agree R l (smp p q) :=
  agree_ab hl (smp_ab p q) (by rw [smp_a]; omega) (by rw [smp_b]; omega)
theorem ab_count {l : List Nat} (h : ∀ c ∈ l, AB c) : l.length = l.count 97 + l.count 98 := by
  induction l with
  | nil => rfl
  | cons c l ih =>
    have := ih fun x hx => h x (List.mem_cons_of_mem _ hx)
    rcases h c (List.mem_cons_self ..) with rfl | rfl
    · simp [List.count_cons, this]; omega
    · simp [List.count_cons, this]; omega
theorem sum2 (p q : Nat) : mSum [.tup [.int (p : Int), .int (q : Int)]] = some (.int ((p + q : Nat) : Int)) := by
  show some (D.int _) = _
  simp
theorem str_any {S : SL} {w : Bx} {s : Str} {l : List Nat} (h : s = tx l) : eC (.str s) S w = .ok (.str (tx l)) w := by rw [h]; rfl
end Y
namespace Y
open PySem PySem.Spec PyProof.Rows L2
/-! ### a text in a list of texts -/
theorem toPys_strs : ∀ ys : List (List Nat), toPys (ys.map fun y => D.str (tx y)) = some (ys.map fun y => PyData.str (tx y))
  | [] => by rw [List.map_nil, toPys, List.map_nil]
  | y :: ys => by rw [List.map_cons, toPys, toPys_strs ys, toPy]; rfl
theorem in_strs {x : List Nat} {ys : List (List Nat)} (hx : ∀ c ∈ x, AB c) (hys : ∀ y ∈ ys, ∀ c ∈ y, AB c) : mIn (.str (tx x)) (.lst (ys.map fun y => .str (tx y))) = some (.bl (decide (x ∈ ys))) := by
  obtain ⟨p, h1, h2⟩ := nice_shp (nice_tx hx 1) (by decide)
  obtain ⟨q, h3, h4⟩ := nice_shp (nice_list (n := 1) (ds := ys.map fun y => .str (tx y)) fun d hd => by
    obtain ⟨y, hy, rfl⟩ := List.mem_map.mp hd
    exact nice_tx (hys y hy) 1) (by decide)
  rw [toPy] at h1; cases h1
  rw [toPy, toPys_strs] at h3; cases h3
  have e : inB (.str (tx x)) (.lst (ys.map fun y => .str (tx y))) = some (decide (x ∈ ys)) := by
    simp only [inB, h2, h4, Option.bind_some]
    congr 1
    rw [List.any_map]
    have : ∀ y, ((fun z => PyData.eqv z (.str (tx x))) ∘ fun y => PyData.str (tx y)) y = decide (y = x) := fun y => by
      show PyData.eqv (.str (tx y)) (.str (tx x)) = _
      rw [eqv_strL (d := .str (tx x)) (by rw [toPy])]
      show decide (tx x = tx y) = _
      by_cases h : y = x
      · rw [h, decide_eq_true rfl, decide_eq_true rfl]
      · rw [decide_eq_false h, decide_eq_false fun e => h (tx_inj.mp e).symm]
    rw [show ((fun z => PyData.eqv z (.str (tx x))) ∘ fun y => PyData.str (tx y)) = fun y => decide (y = x) from funext this]
    by_cases h : x ∈ ys
    · rw [decide_eq_true h, List.any_eq_true]; exact ⟨x, h, decide_eq_true rfl⟩
    · rw [decide_eq_false h, List.any_eq_false]; intro y hy; simp; rintro rfl; exact h hy
  unfold mIn
  rw [e]; rfl
/-! ### what may stand in a piece -/
def SymIn (c : Nat) (s : List Nat) : Prop := s = [] ∨ s = [c] ∨ s = [flipC c]
def SymM (l : List Nat) (m : List Mk') : Prop := ∀ x ∈ m, x.w = true → SymIn (l.getD x.o.toNat 0) x.s
theorem sym_flip {c d : Nat} (hc : AB c) (h : SymIn c [d]) : SymIn c [flipC d] := by
  rcases h with h | h | h
  · cases h
  · cases h; exact .inr (.inr rfl)
  · cases h; rw [flip_flip hc]; exact .inr (.inl rfl)
theorem chX_sym {l : List Nat} (hl : ∀ c ∈ l, AB c) {k : Kd} {x : Mk'} {c : Nat} (hx : x.s = [c]) (hi : x.w = true → x.o.toNat < l.length) (h : x.w = true → SymIn (l.getD x.o.toNat 0) x.s) : SymM l (chX k x c) := fun y hy hw => by
  have hab : x.w = true → AB (l.getD x.o.toNat 0) := fun q => by
    rw [List.getD_eq_getElem?_getD, List.getElem?_eq_getElem (hi q)]; exact hl _ (List.getElem_mem _)
  cases k with
  | bef d => simp only [chX, List.mem_cons, List.not_mem_nil, or_false] at hy; rcases hy with rfl | rfl
             · cases hw
             · exact h hw
  | aft d => simp only [chX, List.mem_cons, List.not_mem_nil, or_false] at hy; rcases hy with rfl | rfl
             · exact h hw
             · cases hw
  | rem =>
    simp only [chX] at hy
    split at hy
    · simp only [List.mem_cons, List.not_mem_nil, or_false] at hy; subst hy; exact .inl rfl
    · nomatch hy
  | flp =>
    simp only [chX, List.mem_cons, List.not_mem_nil, or_false] at hy; subst hy
    have hw : x.w = true := hw
    have := h hw
    rw [hx] at this
    exact sym_flip (hab hw) this
theorem atS_sym {l : List Nat} (hl : ∀ c ∈ l, AB c) {m : List Mk'} {k : Kd} {c n : Nat} {fr : Bool} (h1 : Le1 m) (h0 : 0 < n) (ho : ∀ x ∈ m, x.w = true → x.o.toNat < l.length) (h : SymM l m) : SymM l (atS m k c n fr) := by
  by_cases hn : n ≤ (lets m).count c
  · obtain ⟨m1, x, m2, rfl, e1, _, e3⟩ := atS_ex (fr := fr) k h1 h0 hn
    rw [e3]
    intro y hy hw
    rcases List.mem_append.mp hy with hy | hy
    · rcases List.mem_append.mp hy with hy | hy
      · exact h y (by simp [hy]) hw
      · exact chX_sym hl e1 (ho x (by simp)) (h x (by simp)) y hy hw
    · exact h y (by simp [hy]) hw
  · rw [atS_none (by omega)]; exact h
theorem own_lt {t : Tr} (ht : t.Ok) : ∀ x ∈ mkT t, x.w = true → x.o.toNat < t.src.length := fun x hx hw => by
  have key : ∀ (ps : List Pc) (n : Nat), x ∈ mkPs n ps → x.o.toNat < n + ps.length := fun ps => by
    induction ps with
    | nil => intro n h; nomatch h
    | cons p ps ih =>
      intro n h
      rcases List.mem_append.mp h with h | h
      · have : x.o = (n : Int) := by
          rcases List.mem_append.mp h with h | h
          · obtain ⟨c, _, rfl⟩ := List.mem_map.mp h; rfl
          · rcases List.mem_cons.mp h with rfl | h
            · rfl
            · obtain ⟨c, _, rfl⟩ := List.mem_map.mp h; rfl
        rw [this, List.length_cons]; omega
      · have := ih (n + 1) h
        rw [List.length_cons]; omega
  rcases List.mem_append.mp hx with hx | hx
  · obtain ⟨c, _, rfl⟩ := List.mem_map.mp hx; cases hw
  · rcases List.mem_append.mp hx with hx | hx
    · have := key t.ps 0 hx
      rw [ht.len] at this; omega
    · obtain ⟨c, _, rfl⟩ := List.mem_map.mp hx; cases hw
theorem step_sym {t : Tr} (ht : t.Ok) (hl : ∀ c ∈ t.src, AB c) {e : Ed} (he : EdOk e) (h : SymM t.src (mkT t)) : SymM t.src (mkT (jnT t (edT e t.res))) := by
  rw [← step_mk ht he]
  cases e with
  | keep => exact h
  | pre c => intro x hx hw; rcases List.mem_cons.mp hx with rfl | hx
             · cases hw
             · exact h x hx hw
  | app c => intro x hx hw; rcases List.mem_append.mp hx with hx | hx
             · exact h x hx hw
             · simp only [List.mem_singleton] at hx; subst hx; cases hw
  | at_ k p => exact atS_sym hl (mkT_le ht) he.2.2.1 (own_lt ht) h
theorem run_sym : ∀ (es : List Ed) (t : Tr), t.Ok → (∀ c ∈ t.src, AB c) → (∀ e ∈ es, EdOk e) → SymM t.src (mkT t) → SymM t.src (mkT (runT t es))
  | [], _, _, _, _, h => h
  | e :: es, t, ht, hl, he, h => by
    have h1 := step_sym ht hl (he e (List.mem_cons_self ..)) h
    exact run_sym es _ (run_step ht (he e (List.mem_cons_self ..))).1 hl (fun x hx => he x (List.mem_cons_of_mem _ hx)) h1
/-- the symbol of a piece: gone, as it was, or flipped -/
def TrSym (t : Tr) : Prop := ∀ i, i < t.src.length → SymIn (t.src.getD i 0) (t.ps.getD i Pc.nil).s
theorem tr_sym {es : List Ed} (he : ∀ e ∈ es, EdOk e) {l : List Nat} (hl : ∀ c ∈ l, AB c) : TrSym (runT (stillT l) es) := by
  obtain ⟨o1, _, o3⟩ := run_ok es (stillT l) (still_ok l) he
  have h := run_sym es (stillT l) (still_ok l) hl he (by
    show SymM l (mkT (stillT l))
    rw [still_mkR]
    intro x hx hw
    obtain ⟨i, hi, rfl⟩ := List.mem_map.mp hx
    right; left
    simp)
  intro i hi
  have hm : (⟨(i : Int), true, ((runT (stillT l) es).ps.getD i Pc.nil).s⟩ : Mk') ∈ mkT (runT (stillT l) es) := by
    have := filt_at o1 hi
    have h2 : (⟨(i : Int), true, ((runT (stillT l) es).ps.getD i Pc.nil).s⟩ : Mk') ∈ mkP (i : Int) ((runT (stillT l) es).ps.getD i Pc.nil) := by simp [mkP]
    rw [← this] at h2
    exact (List.mem_filter.mp h2).1
  have := h _ hm rfl
  rw [o3]
  exact this
/-! ### merging -/
/-- a symbol in conflict -/
def Cl (t u : Tr) (i : Nat) : Prop := ([] = (t.ps.getD i Pc.nil).s ∨ [] = (u.ps.getD i Pc.nil).s) ∧ ([flipC (t.src.getD i 0)] = (t.ps.getD i Pc.nil).s ∨ [flipC (t.src.getD i 0)] = (u.ps.getD i Pc.nil).s)
theorem flip_ne {c : Nat} (h : AB c) : flipC c ≠ c := by rcases h with rfl | rfl <;> decide
theorem mgP_iff {c : Nat} {p q : Pc} (hc : AB c) (hp : SymIn c p.s) (hq : SymIn c q.s) : mgP [c] p q = none ↔ ([] = p.s ∨ [] = q.s) ∧ ([flipC c] = p.s ∨ [flipC c] = q.s) := by
  have hn := flip_ne hc
  obtain ⟨b, s, a⟩ := p
  obtain ⟨b', s', a'⟩ := q
  unfold mgP
  simp only [SymIn] at *
  rcases hp with rfl | rfl | rfl <;> rcases hq with rfl | rfl | rfl <;> simp [hn, hn.symm, eq_comm]
theorem mgPs_some : ∀ (l : List Nat) (ps qs : List Pc), ps.length = l.length → qs.length = l.length → (∀ i, i < l.length → mgP [l.getD i 0] (ps.getD i Pc.nil) (qs.getD i Pc.nil) ≠ none) → ∃ rs, mgPs l ps qs = some rs
  | [], _, _, _, _, _ => ⟨[], by rw [mgPs]; exact fun _ _ _ _ _ _ h => nomatch h⟩
  | c :: l, p :: ps, q :: qs, h1, h2, h => by
    simp only [List.length_cons, Nat.add_right_cancel_iff] at h1 h2
    have h0 : mgP [c] p q ≠ none := by simpa using h 0 (by simp)
    obtain ⟨rs, hr⟩ := mgPs_some l ps qs h1 h2 fun i hi => by simpa using h (i + 1) (by simpa using hi)
    obtain ⟨r, hr0⟩ := Option.ne_none_iff_exists'.mp h0
    exact ⟨r :: rs, by rw [mgPs, hr0, hr]; rfl⟩
theorem mg_some {t u : Tr} (ht : t.Ok) (hu : u.Ok) (e : u.src = t.src) (hab : ∀ c ∈ t.src, AB c) (st : TrSym t) (su : TrSym u) (h : ∀ i, i < t.src.length → ¬ Cl t u i) : ∃ v, mgT t u = some v := by
  have hl := hu.len
  rw [e] at hl
  obtain ⟨rs, hr⟩ := mgPs_some t.src t.ps u.ps ht.len hl fun i hi => fun z => h i hi (by
    have su' := su i (by rw [e]; exact hi)
    rw [e] at su'
    exact (mgP_iff (by rw [List.getD_eq_getElem?_getD, List.getElem?_eq_getElem hi]; exact hab _ (List.getElem_mem _)) (st i hi) su').mp z)
  exact ⟨_, by unfold mgT; rw [hr]; rfl⟩
structure Mg (t u v : Tr) : Prop where
  src : v.src = t.src
  head : v.head = t.head ++ u.head
  tail : v.tail = t.tail ++ u.tail
  len : v.ps.length = t.src.length
  at_ : ∀ i, i < t.src.length → mgP [t.src.getD i 0] (t.ps.getD i Pc.nil) (u.ps.getD i Pc.nil) = some (v.ps.getD i Pc.nil)
theorem mg_of {t u v : Tr} (ht : t.Ok) (hu : u.Ok) (e : u.src = t.src) (h : mgT t u = some v) : Mg t u v := by
  obtain ⟨rs, hr, rfl⟩ := Option.map_eq_some_iff.mp h
  have hl := hu.len
  rw [e] at hl
  exact ⟨rfl, rfl, rfl, mgPs_len _ _ _ _ ht.len hl hr, mgPs_get _ _ _ _ ht.len hl hr⟩
theorem of_mg {t u v : Tr} (ht : t.Ok) (hu : u.Ok) (e : u.src = t.src) (h : Mg t u v) : mgT t u = some v := by
  have hl := hu.len
  rw [e] at hl
  have := mgPs_of t.src t.ps u.ps v.ps ht.len hl h.len h.at_
  obtain ⟨s, hd, ps, tl⟩ := v
  have h1 := h.src; have h2 := h.head; have h3 := h.tail
  simp only at h1 h2 h3
  subst h1 h2 h3
  unfold mgT
  rw [this]; rfl
theorem mgP_parts {c : List Nat} {p q r : Pc} (h : mgP c p q = some r) : r.b = p.b ++ q.b ∧ r.a = p.a ++ q.a ∧ (r.s = p.s ∨ r.s = q.s) := by
  unfold mgP at h
  split at h
  · cases h; exact ⟨rfl, rfl, .inl rfl⟩
  · split at h
    · cases h; exact ⟨rfl, rfl, .inr rfl⟩
    · cases h
theorem Mg.ok {t u v : Tr} (m : Mg t u v) (ht : t.Ok) (hu : u.Ok) : v.Ok := ⟨by rw [m.len, m.src], fun p hp => by
  obtain ⟨i, hi, rfl⟩ := List.getElem_of_mem hp
  have hi' := hi
  rw [m.len] at hi
  have q := (mgP_parts (m.at_ i hi)).2.2
  rw [show v.ps.getD i Pc.nil = v.ps[i] by rw [List.getD_eq_getElem?_getD, List.getElem?_eq_getElem hi']; rfl] at q
  rcases q with q | q
  · rw [q]; exact getD_one ht.one i
  · rw [q]; exact getD_one hu.one i⟩
theorem wr_at {ps : List Pc} {i : Nat} : ∀ c ∈ (ps.getD i Pc.nil).all, c ∈ wr ps := fun c hc => by
  rw [List.getD_eq_getElem?_getD] at hc
  cases q : ps[i]? with
  | none => rw [q] at hc; simp [Pc.nil, Pc.all] at hc
  | some p => rw [q] at hc; exact wr_mem2 (List.mem_of_getElem? q) hc
theorem mem_wr {ps : List Pc} {c : Nat} (h : c ∈ wr ps) : ∃ i, i < ps.length ∧ c ∈ (ps.getD i Pc.nil).all := by
  unfold wr at h
  obtain ⟨l, h1, h2⟩ := List.mem_flatten.mp h
  obtain ⟨p, h3, rfl⟩ := List.mem_map.mp h1
  obtain ⟨i, hi, rfl⟩ := List.getElem_of_mem h3
  exact ⟨i, hi, by rw [List.getD_eq_getElem?_getD, List.getElem?_eq_getElem hi]; exact h2⟩
theorem Mg.mem {t u v : Tr} (m : Mg t u v) {c : Nat} (h : c ∈ v.res) : c ∈ t.res ∨ c ∈ u.res := by
  have inR : ∀ (t : Tr) (i : Nat), c ∈ (t.ps.getD i Pc.nil).all → c ∈ t.res := fun t i q => by simp [Tr.res, wr_at c q]
  simp only [Tr.res, List.mem_append] at h
  rcases h with (h | h) | h
  · rw [m.head] at h
    rcases List.mem_append.mp h with h | h
    · exact .inl (by simp [Tr.res, h])
    · exact .inr (by simp [Tr.res, h])
  · obtain ⟨i, hi, h⟩ := mem_wr h
    rw [m.len] at hi
    obtain ⟨e1, e2, e3⟩ := mgP_parts (m.at_ i hi)
    simp only [Pc.all, List.mem_append] at h
    rw [e1, e2] at h
    simp only [List.mem_append] at h
    rcases h with ((h | h) | h) | (h | h)
    · exact .inl (inR t i (by simp only [Pc.all, List.mem_append, h, true_or, or_true]))
    · exact .inr (inR u i (by simp only [Pc.all, List.mem_append, h, true_or, or_true]))
    · rcases e3 with e3 | e3
      · rw [e3] at h; exact .inl (inR t i (by simp only [Pc.all, List.mem_append, h, true_or, or_true]))
      · rw [e3] at h; exact .inr (inR u i (by simp only [Pc.all, List.mem_append, h, true_or, or_true]))
    · exact .inl (inR t i (by simp only [Pc.all, List.mem_append, h, true_or, or_true]))
    · exact .inr (inR u i (by simp only [Pc.all, List.mem_append, h, true_or, or_true]))
  · rw [m.tail] at h
    rcases List.mem_append.mp h with h | h
    · exact .inl (by simp [Tr.res, h])
    · exact .inr (by simp [Tr.res, h])
theorem wr_le {ps qs rs : List Pc} (h1 : qs.length = ps.length) (h2 : rs.length = ps.length) (h : ∀ i, i < ps.length → (rs.getD i Pc.nil).all.length ≤ (ps.getD i Pc.nil).all.length + (qs.getD i Pc.nil).all.length) : (wr rs).length ≤ (wr ps).length + (wr qs).length := by
  induction ps generalizing qs rs with
  | nil =>
    have : rs = [] := List.length_eq_zero_iff.mp (by simpa using h2)
    rw [this]; simp [wr_nil]
  | cons p ps ih =>
    cases qs with
    | nil => simp at h1
    | cons q qs =>
      cases rs with
      | nil => simp at h2
      | cons r rs =>
        have a := ih (qs := qs) (rs := rs) (by simpa using h1) (by simpa using h2) fun i hi => by simpa using h (i + 1) (by simpa using hi)
        have b := h 0 (by simp)
        simp only [List.getD_cons_zero] at b
        rw [wr_cons, wr_cons, wr_cons, List.length_append, List.length_append, List.length_append]
        omega
theorem Mg.len_le {t u v : Tr} (m : Mg t u v) (ht : t.Ok) (hu : u.Ok) (e : u.src = t.src) : v.res.length ≤ t.res.length + u.res.length := by
  have := wr_le (ps := t.ps) (qs := u.ps) (rs := v.ps) (by rw [hu.len, ht.len, e]) (by rw [m.len, ht.len]) fun i hi => by
    rw [ht.len] at hi
    obtain ⟨e1, e2, e3⟩ := mgP_parts (m.at_ i hi)
    have : (v.ps.getD i Pc.nil).s.length ≤ (t.ps.getD i Pc.nil).s.length + (u.ps.getD i Pc.nil).s.length := by rcases e3 with e3 | e3 <;> rw [e3] <;> omega
    simp only [all_len, e1, e2, List.length_append]
    omega
  simp only [Tr.res, List.length_append, m.head, m.tail]
  omega
theorem mgP_sym {c : Nat} {p q r : Pc} (hp : SymIn c p.s) (hq : SymIn c q.s) (h : mgP [c] p q = some r) : SymIn c r.s := by
  rcases (mgP_parts h).2.2 with e | e
  · rw [e]; exact hp
  · rw [e]; exact hq
theorem Mg.sym {t u v : Tr} (m : Mg t u v) (e : u.src = t.src) (st : TrSym t) (su : TrSym u) : TrSym v := fun i hi => by
  rw [m.src] at hi ⊢
  have su' := su i (by rw [e]; exact hi)
  rw [e] at su'
  exact mgP_sym (st i hi) su' (m.at_ i hi)
/-- a piece merged with two others, grouped so or so -/
theorem mgP_assoc {c : Nat} {x y z xy yz : Pc} (hc : AB c) (hx : SymIn c x.s) (hy : SymIn c y.s) (hz : SymIn c z.s) (h1 : mgP [c] x y = some xy) (h2 : mgP [c] y z = some yz) (h3 : mgP [c] x z ≠ none) : ∃ r, mgP [c] xy z = some r ∧ mgP [c] x yz = some r := by
  have hn := flip_ne hc
  obtain ⟨b, s, a⟩ := x
  obtain ⟨b', s', a'⟩ := y
  obtain ⟨b'', s'', a''⟩ := z
  unfold mgP at *
  simp only [SymIn] at *
  rcases hx with rfl | rfl | rfl <;> rcases hy with rfl | rfl | rfl <;> rcases hz with rfl | rfl | rfl <;> simp [hn, hn.symm] at h1 h2 h3 ⊢ <;> subst h1 h2 <;> simp [hn, hn.symm]
theorem mg_assoc {t u v tu uv : Tr} (ht : t.Ok) (hu : u.Ok) (hv : v.Ok) (e1 : u.src = t.src) (e2 : v.src = t.src) (hab : ∀ c ∈ t.src, AB c) (st : TrSym t) (su : TrSym u) (sv : TrSym v) (m1 : Mg t u tu) (m2 : Mg u v uv) (h3 : ∀ i, i < t.src.length → ¬ Cl t v i) :
    ∃ r, mgT tu v = some r ∧ mgT t uv = some r := by
  have cl : ∀ i, i < t.src.length → ∃ r, mgP [t.src.getD i 0] (tu.ps.getD i Pc.nil) (v.ps.getD i Pc.nil) = some r ∧ mgP [t.src.getD i 0] (t.ps.getD i Pc.nil) (uv.ps.getD i Pc.nil) = some r := fun i hi => by
    have hc : AB (t.src.getD i 0) := by rw [List.getD_eq_getElem?_getD, List.getElem?_eq_getElem hi]; exact hab _ (List.getElem_mem _)
    have su' := su i (by rw [e1]; exact hi)
    have sv' := sv i (by rw [e2]; exact hi)
    have m2' := m2.at_ i (by rw [e1]; exact hi)
    rw [e1] at su' m2'
    rw [e2] at sv'
    exact mgP_assoc hc (st i hi) su' sv' (m1.at_ i hi) m2' fun z => h3 i hi ((mgP_iff hc (st i hi) sv').mp z)
  obtain ⟨rs, hr⟩ : ∃ rs : List Pc, rs.length = t.src.length ∧ ∀ i, i < t.src.length → mgP [t.src.getD i 0] (tu.ps.getD i Pc.nil) (v.ps.getD i Pc.nil) = some (rs.getD i Pc.nil) ∧ mgP [t.src.getD i 0] (t.ps.getD i Pc.nil) (uv.ps.getD i Pc.nil) = some (rs.getD i Pc.nil) := by
    refine ⟨(List.range t.src.length).map fun i => (mgP [t.src.getD i 0] (tu.ps.getD i Pc.nil) (v.ps.getD i Pc.nil)).getD Pc.nil, by simp, fun i hi => ?_⟩
    obtain ⟨r, r1, r2⟩ := cl i hi
    have : ((List.range t.src.length).map fun i => (mgP [t.src.getD i 0] (tu.ps.getD i Pc.nil) (v.ps.getD i Pc.nil)).getD Pc.nil).getD i Pc.nil = r := by
      rw [List.getD_eq_getElem?_getD, List.getElem?_map, List.getElem?_range hi]
      simp only [Option.map_some, Option.getD_some]
      rw [r1]; rfl
    rw [this]; exact ⟨r1, r2⟩
  refine ⟨⟨t.src, t.head ++ u.head ++ v.head, rs, t.tail ++ u.tail ++ v.tail⟩, ?_, ?_⟩
  · refine of_mg (m1.ok ht hu) hv (by rw [m1.src]; exact e2) ⟨m1.src.symm, by rw [m1.head], by rw [m1.tail], by rw [m1.src]; exact hr.1, fun i hi => ?_⟩
    rw [m1.src] at hi ⊢
    exact (hr.2 i hi).1
  · refine of_mg ht (m2.ok hu hv) (by rw [m2.src]; exact e1) ⟨rfl, by rw [m2.head]; exact List.append_assoc .., by rw [m2.tail]; exact List.append_assoc .., hr.1, fun i hi => (hr.2 i hi).2⟩
end Y
namespace Y
open PySem PySem.Spec PyProof.Rows L2
/-- a loop over numbers that may return -/
theorem x_forR {gm : GM} {body : SM} {w : Bx} (f r : Nat → D) (I : SL → Prop) (P : Nat → Prop) (n : Nat) (hs : ∀ i S, i < n → I S → ∃ S1, gm (f i) S = some S1 ∧ ((P i ∧ body S1 w = .rt (r i) w) ∨ (¬ P i ∧ ∃ S2, body S1 w = .nx S2 w ∧ I S2))) :
    ∀ (k i : Nat) (S : SL), i + k = n → I S → (∀ j, j < i → ¬ P j) → (∃ S2, forLoop gm body ((List.range' i k).map f) S w = .nx S2 w ∧ I S2 ∧ ∀ j, j < n → ¬ P j) ∨ ∃ j, j < n ∧ P j ∧ (∀ k, k < j → ¬ P k) ∧ forLoop gm body ((List.range' i k).map f) S w = .rt (r j) w
  | 0, i, S, e, h, hp => .inl ⟨S, rfl, h, by rw [← e]; exact hp⟩
  | k + 1, i, S, e, h, hp => by
    obtain ⟨S1, h1, h2⟩ := hs i S (by omega) h
    rcases h2 with ⟨h2, h3⟩ | ⟨h2, S2, h3, h4⟩
    · refine .inr ⟨i, by omega, h2, hp, ?_⟩
      rw [List.range'_succ, List.map_cons]
      show (match gm (f i) S with | none => RS.bad | some S1 => _) = _
      rw [h1]
      simp only [h3]
    · have hp' : ∀ j, j < i + 1 → ¬ P j := fun j hj => by
        by_cases q : j = i
        · rw [q]; exact h2
        · exact hp j (by omega)
      have e2 : forLoop gm body ((List.range' i (k + 1)).map f) S w = forLoop gm body ((List.range' (i + 1) k).map f) S2 w := by
        rw [List.range'_succ, List.map_cons]
        show (match gm (f i) S with | none => RS.bad | some S1 => _) = _
        rw [h1]
        simp only [h3]
      rw [e2]
      exact x_forR f r I P n hs k (i + 1) S2 (by omega) h4 hp'
end Y
namespace Y
open PySem PySem.Spec PyProof.Rows L2
/-! ### which clause takes an exception -/
theorem exmFive {M : Model} {K : PySem.W.Frag} {c1 c2 c3 c4 c5 cls : Value} {tp e : Addr} {b : Bool} {h : Heap} (KX : K.In h) (ty : PySem.W.Looks M h (typeOf (.ref e)) cls) (tup : h.get? tp = some { cls := .type "tuple", data := .seq [c1, c2, c3, c4, c5].toArray })
    (hx : PySem.W.exmAny K cls [c1, c2, c3, c4, c5] = some b) : PySem.W.Looks M h (excMatches (.ref e) (.ref tp)) b := by
  intro A Q E s kk q
  obtain ⟨hh, gg, dd, tt, oo⟩ := s
  have kp : ∀ x y, h.get? x = some y → hh.get? x = some y := kk
  have isT : PySem.W.Looks M h (isInstance (.ref tp) (.type "tuple")) true := ((PySem.W.Looks.ld tup).andThen .now).andThen (PySem.W.Looks.of_pure PySem.isSubtype_tuple_tuple)
  obtain ⟨p1, r1, m1, n1, f1⟩ := PySem.W.exmAny_cons hx
  obtain ⟨p2, r2, m2, n2, f2⟩ := PySem.W.exmAny_cons n1
  obtain ⟨p3, r3, m3, n3, f3⟩ := PySem.W.exmAny_cons n2
  obtain ⟨p4, r4, m4, n4, f4⟩ := PySem.W.exmAny_cons n3
  obtain ⟨p5, r5, m5, n5, f5⟩ := PySem.W.exmAny_cons n4
  have n5 : some false = some r5 := n5
  cases n5
  obtain ⟨i1, j1⟩ := PySem.W.exm_cls (M := M) KX m1
  obtain ⟨i2, j2⟩ := PySem.W.exm_cls (M := M) KX m2
  obtain ⟨i3, j3⟩ := PySem.W.exm_cls (M := M) KX m3
  obtain ⟨i4, j4⟩ := PySem.W.exm_cls (M := M) KX m4
  obtain ⟨i5, j5⟩ := PySem.W.exm_cls (M := M) KX m5
  replace i1 := i1.keeps kp; replace j1 := j1.keeps kp
  replace i2 := i2.keeps kp; replace j2 := j2.keeps kp
  replace i3 := i3.keeps kp; replace j3 := j3.keeps kp
  replace i4 := i4.keeps kp; replace j4 := j4.keeps kp
  replace i5 := i5.keeps kp; replace j5 := j5.keeps kp
  replace ty := ty.keeps kp; replace isT := isT.keeps kp
  replace tup := kp _ _ tup
  subst f1 f2 f3 f4 f5
  unfold excMatches
  refine wpAny_bind (isT.at ?_); dsimp only; rw [if_pos rfl]
  first
    | refine wpAny_bind (wpAny_seqItems tup rfl ?_); dsimp only [Option.getD_some, Option.getD]
    | refine wpAny_bind (wpAny_bind (wpAny_seqItems tup rfl (wpAny_pure ?_))); dsimp only [Option.getD_some, Option.getD]
  cases p1 <;> cases p2 <;> cases p3 <;> cases p4 <;> cases p5 <;> ((repeat (first | simp only [List.forIn_cons, List.forIn_nil, Bool.not_true, Bool.false_eq_true, if_false, if_true] | lk)); exact q)
/-- the test of a clause: it answers for the classes cs -/
def TestE (X : Cx) (t : Expr) (cs : List Value) : Prop := ∀ {a : Addr} {oe : Obj} {pn pins : List (Addr × Obj)} {σ : L2.St} {H : Hp} {s : Shared} {Q : Value → Shared → Prop} {E : Value → Shared → Prop}, Inv (X.suite a ((a, oe) :: pn)) pins σ H s →
  (∀ c' h', (∀ x y, s.heap.get? x = some y → h'.get? x = some y) → (∀ cls b e, PySem.W.Looks (model X.prog X.w) h' (typeOf (.ref e)) cls → PySem.W.exmAny X.K cls cs = some b → PySem.W.Looks (model X.prog X.w) h' (excMatches (.ref e) c') b) → Q c' { s with heap := h' }) →
  wpAny (model X.prog X.w) (X.A.mark (some (.ref a))) (eval t X.env) Q E s
theorem test_one {X : Cx} {x : Str} {c : Value} {np : Pos} (hg : Gl X x) (hm : X.mg x = some c) (hd : (x == ("__debug__" : Str)) = false := by decide) : TestE X (.Name x np) [c] := by
  intro a oe pn pins σ H s Q E I h
  refine ld_glob (X := X.suite a ((a, oe) :: pn)) I hg hm (h c s.heap (fun _ _ q => q) fun cls b e ty hx => ?_) hd
  obtain ⟨p1, r1, m1, n1, f1⟩ := PySem.W.exmAny_cons hx
  have n1 : some false = some r1 := n1
  cases n1
  rw [f1, Bool.or_false]
  exact PySem.W.exm_one I.kIn ty m1
/-- the names of a tuple -/
inductive NmsOk (X : Cx) : List Expr → List Value → Prop
  | nil : NmsOk X [] []
  | cons {x : Str} {c : Value} {np : Pos} {es : List Expr} {cs : List Value} (hg : Gl X x) (hm : X.mg x = some c) (hd : (x == ("__debug__" : Str)) = false) (r : NmsOk X es cs) : NmsOk X (.Name x np :: es) (c :: cs)
theorem nms_run {X : Cx} {a : Addr} {oe : Obj} {pn pins : List (Addr × Obj)} {σ : L2.St} {H : Hp} {s : Shared} {E : Value → Shared → Prop} {pos : Pos} (I : Inv (X.suite a ((a, oe) :: pn)) pins σ H s) : ∀ {es : List Expr} {cs : List Value}, NmsOk X es cs → ∀ {Q : List Value → Shared → Prop}, Q cs s → wpAny (model X.prog X.w) (X.A.mark (some (.ref a))) (spliced (backTo pos (starEach es X.env))) Q E s := by
  intro es cs hn
  induction hn with
  | nil => intro Q q; exact Calls.spliced_nil q
  | @cons x c np es cs hg hm hd r ih =>
    intro Q q
    have e : backTo pos (starEach (.Name x np :: es) X.env) = (false, eval (.Name x np) X.env) :: backTo pos (starEach es X.env) := by rfl
    rw [e]
    exact Calls.spliced_cons (ld_glob (X := X.suite a ((a, oe) :: pn)) I hg hm (wpAny_mono (ih (Q := fun us s1 => us = cs ∧ s1 = s) ⟨rfl, rfl⟩) (fun us s1 h => by obtain ⟨rfl, rfl⟩ := h; exact q) fun _ _ z => z) hd)
theorem test_tup {X : Cx} {es : List Expr} {cs : List Value} {k : Nat} {tpos : Pos} (hn : NmsOk X es cs) (h2 : 2 ≤ cs.length) (h5 : cs.length ≤ 5) : TestE X (.Tuple es k tpos) cs := by
  intro a oe pn pins σ H s Q E I h
  refine wpAny_Tuple_spliced (nms_run I hn ⟨Nat.le_trans h5 (by rw [sizeLine_eq]; decide), h _ _ (fun x y q => Heap.get?_push_of_some _ q) fun cls b e ty hx => ?_⟩)
  have KX : X.K.In (s.heap.push { cls := .type "tuple", data := .seq cs.toArray }) := I.kIn.keeps fun x y q => Heap.get?_push_of_some _ q
  have at_ : (s.heap.push ({ cls := .type "tuple", data := .seq cs.toArray } : Obj)).get? s.heap.objs.size = some ({ cls := .type "tuple", data := .seq cs.toArray } : Obj) := Heap.get?_push_size _ rfl
  match cs, h2, h5, hx, KX, at_, ty with
  | [_, _], _, _, hx, KX, at_, ty => exact PySem.W.exm_tup2 KX ty at_ hx
  | [_, _, _], _, _, hx, KX, at_, ty => exact PySem.W.exm_tup3 KX ty at_ hx
  | [_, _, _, _], _, _, hx, KX, at_, ty => exact PySem.W.exm_tup4 KX ty at_ hx
  | [_, _, _, _, _], _, _, hx, KX, at_, ty => exact exmFive KX ty at_ hx
/-- behind a suite the name is unbound -/
def endsAs (i : Nat) (D : Ends) : Ends := { nx := fun σ' H' => D.nx (σ'.set i none) H', rt := D.rt, bk := fun σ' H' => D.bk (σ'.set i none) H', ct := fun σ' H' => D.ct (σ'.set i none) H' }
/-- what the clauses wish of an exception of the body -/
def wClauses (K : PySem.W.Frag) (i : Nat) (Wout : WX) (D : Ends) : List (List Value × (Addr → Value → Option Addr → TS)) → WX
  | [] => Wout
  | (cs, ts) :: r => fun cls d σ H => ∃ b, PySem.W.exmAny K cls cs = some b ∧ (b = true → ∀ a, H a = none → ts a cls d (endsAs i D) (σ.set i (some (.ref a))) H) ∧ (b = false → wClauses K i Wout D r cls d σ H)
inductive ClsOk (X : Cx) (n : Str) : List ExceptHandler → List (List Value × (Addr → Value → Option Addr → TS)) → Prop
  | nil : ClsOk X n [] []
  | cons {t : Expr} {cs : List Value} {ts : Addr → Value → Option Addr → TS} {b₀ : Stmt} {suite : List Stmt} {cpos : Pos} {hds : List ExceptHandler} {l : List (List Value × (Addr → Value → Option Addr → TS))} (ht : TestE X t cs)
      (hsu : ∀ (a : Addr) (oe : Obj) (cls : Value) (d : Option Addr) (pn : List (Addr × Obj)), Zc cls d oe → (∃ vs, oe.data = .fields vs) → PSs (X.suite a ((a, oe) :: pn)) (b₀ :: suite) (ts a cls d)) (r : ClsOk X n hds l) :
      ClsOk X n (.ExceptHandler (some t) (some n) (b₀ :: suite) cpos :: hds) ((cs, ts) :: l)
theorem flying_grow {B h h' : Heap} {l : List Env} {e : Addr} {Z : Obj → Prop} (x : HandSPX.FlyingZ B l e Z h) (k : ∀ b o, h.get? b = some o → h'.get? b = some o) : HandSPX.FlyingZ B l e Z h' := by
  obtain ⟨x1, x2, x3, oe, vs, T, oT, ts, q1, q2, q3, q4, q5, q6, q7, q8⟩ := x
  exact ⟨fun b o q => k b o (x1 b o q), x2, x3.of_keeps fun b o q _ => ⟨o, k b o q, rfl⟩, oe, vs, T, oT, ts, k _ _ q1, q2, q3, q4, q5, q6, k _ _ q7, q8⟩
theorem upTo_grow {h h' : Heap} (k : ∀ b o, h.get? b = some o → h'.get? b = some o) : h.UpToSlots h' := fun b o q _ => ⟨o.slots, k b o q⟩
section
variable {X : Cx} {body : List Stmt} {n : Str} {i : Nat} {h₀ : ExceptHandler} {hds : List ExceptHandler} {l : List (List Value × (Addr → Value → Option Addr → TS))} {pos : Pos} {tb : WX → TS} {Wout : WX}
theorem clauses_run {pins : List (Addr × Obj)} {σ' : L2.St} {H' : Hp} {sI : Shared} {D : Ends} {B : Heap} {a : Addr} {cls : Value} {d : Option Addr} (hs : X.stack = X.env :: X.outer) (hf : X.env.frame = some X.env.locals) (hN : X.N.Nodup) (hi : X.N[i]? = some n) (hln : X.env.kindOf n = some .local) (tk : Takes X Wout) (ok : X.Ok)
    (J : Inv X pins σ' H' sI) (nb : ∀ b o, sI.heap.get? b = some o → b ∉ frs X.stack → B.get? b = some o) (na : H' a = none) : ∀ {hds : List ExceptHandler} {l : List (List Value × (Addr → Value → Option Addr → TS))}, ClsOk X n hds l → ∀ {s' : Shared}, s'.os = sI.os → AllBare s'.gens → sI.heap.UpToSlots s'.heap → HandSPX.FlyingZ B (X.env :: X.outer) a (Zc cls d) s'.heap →
    wClauses X.K i Wout D l cls d σ' H' → wpAny (model X.prog X.w) X.A (handleBy (.ref a) X.env hds) (SP X pins D) X.xe s' := by
  intro hds l hk
  induction hk with
  | nil =>
    intro s' os ag up fl w
    refine wpAny_handleBy_nil ?_
    obtain ⟨_, _, _, oe, vs, T, oT, ts', g1, _, g3, g4, _⟩ := id fl
    unfold PySem.passOn
    refine wpAny_bind (wpAny_field g1 g3 g4 ?_)
    rw [if_neg (show ¬ ((Value.ref T == Value.none) = true) from by simp)]
    have last : wpAny (model X.prog X.w) X.A (setFlight (.ref a) X.env.frame) (fun _ s4 => wpAny (model X.prog X.w) X.A (throw (.ref a) : Sem Flow) (SP X pins D) X.xe s4) X.xe s' := by
      rw [hf]
      refine HandSPX.setFlight_upZ fl fun h4 hh4 up4 => wpAny_throw (tk _ _ ⟨a, B, sI, pins, σ', H', cls, d, rfl, J, nb, up.trans up4, .inr (.inr (by rw [hs]; exact hh4)), na, os, ag, w⟩)
    first
      | exact wpAny_bind (wpAny_pure (wpAny_bind last))
      | exact wpAny_bind last
  | @cons t cs ts b₀ suite cpos hds2 l2 ht hsu r ih =>
    intro s' os ag up fl w
    obtain ⟨b, hb, yes, no⟩ := w
    have away : ∀ {h : Heap} {o : Obj} {vs : Array Value}, h.FunFrames B (X.env :: X.outer) → h.get? a = some o → o.data = .fields vs → a ∉ frs (X.env :: X.outer) := fun {h o vs} ff e1 e2 hm => by
      obtain ⟨_, o2, e3, e4⟩ := ff.mem hm
      rw [e1] at e3; cases e3
      exact e4 _ e2
    have J3 : Inv X pins σ' H' s' := J.landed nb fl.1 up os ag
    obtain ⟨oe, vs, he, hz, hd⟩ := fl.there
    have nfr := away fl.2.2.1 he hd
    have nL : a ≠ X.env.locals := fun z => nfr (List.mem_filterMap.mpr ⟨X.env, List.mem_cons_self, by rw [hf, z]⟩)
    have nF : a ∉ X.fs := fun hm => by
      obtain ⟨e, he, q⟩ := List.mem_filterMap.mp hm
      exact nfr (List.mem_filterMap.mpr ⟨e, List.mem_cons_of_mem _ he, q⟩)
    refine PySem.W.exc_clause_as (ht (J3.suite he hd na nL nF) fun c' h' kp mt => ?_)
    have fl' := flying_grow fl kp
    have up' := up.trans (upTo_grow kp)
    refine ⟨b, mt cls b a (fun A Q E s k q => wpAny_typeOf_ref (k _ _ (kp _ _ he)) (by rw [hz.1]; exact q)) hb, ?_⟩
    cases b with
    | false => exact ih os ag up' fl' (no rfl)
    | true =>
      refine HandSPX.lands_againZ fl' fun h4 fl4 up4 => ?_
      have J4 : Inv X pins σ' H' { s' with heap := h4 } := J.landed nb fl4.1 (up'.trans up4) os ag
      obtain ⟨oe4, vs4, he4, hz4, hd4⟩ := fl4.there
      refine store_ok (X := X.suite a ((a, oe4) :: (X.pn ++ pins))) (v := .ref a) (J4.suite he4 hd4 na nL nF) hN hi (.inl hln) rfl (fun s5 S5 => ?_) (.inr hln)
      refine wpAny_mono ((hsu a oe4 cls d (X.pn ++ pins) hz4 ⟨_, hd4⟩).run [] s5 _ H' _ S5 (yes rfl a na)) (fun f s6 hsp => ?_) (fun _ _ z => False.elim z)
      have fin : ∀ {σ6 : L2.St} {H6 : Hp} {Q : Shared → Prop}, Inv (X.suite a ((a, oe4) :: (X.pn ++ pins))) [] σ6 H6 s6 → (∀ s7, Inv X pins (σ6.set i none) H6 s7 → Q s7) →
          wpAny (model X.prog X.w) X.A (do bindName X.env n .none; unbindBehindTheSuite X.env n cpos) (fun _ s7 => Q s7) X.xe s6 := fun {σ6 H6 Q} S6 hq => gone_ok (S6.unsuite ok) hN hi hln hq
      cases f with
      | next => obtain ⟨σ6, H6, S6, q6⟩ := hsp; exact fin S6 fun s7 J7 => ⟨_, _, J7, q6⟩
      | brk => obtain ⟨σ6, H6, S6, q6⟩ := hsp; exact fin S6 fun s7 J7 => ⟨_, _, J7, q6⟩
      | cont => obtain ⟨σ6, H6, S6, q6⟩ := hsp; exact fin S6 fun s7 J7 => ⟨_, _, J7, q6⟩
      | ret u => obtain ⟨v6, σ6, H6, S6, r6, q6⟩ := hsp; exact fin S6 fun s7 J7 => ⟨_, _, _, J7, r6, q6⟩
/-- try: .. except (A, B) as n: .. except C as n: .. -/
theorem ps_tryAs (hs : X.stack = X.env :: X.outer) (hf : X.env.frame = some X.env.locals) (hN : X.N.Nodup) (hi : X.N[i]? = some n) (hln : X.env.kindOf n = some .local) (tk : Takes X Wout)
    (hb : ∀ (W : WX) (pn : List (Addr × Obj)) (xe : Value → Shared → Prop), Takes (X.tr pn xe) W → PassesOwn (model X.prog X.w) X.A X.env xe → PSs (X.tr pn xe) body (tb W)) (hh : ClsOk X n (h₀ :: hds) l) :
    PS X (.Try body (h₀ :: hds) [] [] pos) (fun D σ H => tb (wClauses X.K i Wout D l) D σ H) := by
  refine ⟨fun pins s σ H D I h => ?_⟩
  have ok := I.ok
  have hfr : X.A.frames = some (X.env :: X.outer) := by rw [ok.frames, hs]
  refine wpAny_Try_except ?_
  have run := (hb (wClauses X.K i Wout D l) (X.pn ++ pins) (fun e s₁ => wpAny (model X.prog X.w) X.A (noteFrame e X.env) (fun _ s₂ => wpAny (model X.prog X.w) X.A (setFlight e none) (fun _ s₃ => wpAny (model X.prog X.w) X.A (handleBy e X.env (h₀ :: hds)) (SP X pins D) X.xe s₃) X.xe s₂) X.xe s₁) (fun u s' xx => by
      obtain ⟨a, B, sI, pins', σ', H', cls, d, rfl, J', nb, up, sky, na, os, ag, w⟩ := xx
      have sky2 : Sky B (X.env :: X.outer) a (Zc cls d) X.env.locals s'.heap := by rw [← hs]; exact sky
      show wpAny (model X.prog X.w) X.A (noteFrame (.ref a) X.env) _ _ _
      exact Sky.land Zc.steady hfr hf sky2 fun h3 fl3 up3 => clauses_run (B := B) hs hf hN hi hln tk ok (J'.ofTry ok) nb na hh (s' := { s' with heap := h3 }) os ag (up.trans up3) fl3 w) PassesOwn.looking).run [] s σ H D (I.toTry _) h
  refine wpAny_mono run (fun f s1 hsp => ?_) (fun e s1 he => he)
  cases f with
  | next => obtain ⟨σ', H', J', q⟩ := hsp; exact wpAny_execs_nil ⟨σ', H', J'.ofTry ok, q⟩
  | brk => obtain ⟨σ', H', J', q⟩ := hsp; exact ⟨σ', H', J'.ofTry ok, q⟩
  | cont => obtain ⟨σ', H', J', q⟩ := hsp; exact ⟨σ', H', J'.ofTry ok, q⟩
  | ret u => obtain ⟨v, σ', H', J', r, q⟩ := hsp; exact ⟨v, σ', H', J'.ofTry ok, r, q⟩
end
end Y
namespace Y
open PySem PySem.Spec PyProof.Rows L2
/-! ### exceptions of the program's own: made, raised -/
def spX (C : Addr) (f T : Str) : Sp := fun vs H Q _ => ∃ (a : Addr) (v : V), vs = [.ref a, v] ∧ H a = some (exo a C none) ∧
  ∀ dx, H dx = none → dx ≠ a → Q .non (upd (upd (upd H dx (exd dx [(f, v)])) a (exo a C (some dx))) dx (exd dx [("tag", .str T), (f, v)]))
/-- the class c at C: its __init__ stores its argument as f, and the tag T -/
structure ExK (P : Program) (w : World) (K : PySem.W.Frag) (mg : Str → Option Value) (base : Heap) (cls : CT) (c f T : Str) : Prop where
  ex : ∃ (C fI : Addr) (fd : FuncData) (ps : List Str), mg c = some (.ref C) ∧ cls c = some C ∧ OexC K C ∧ PySem.W.findIn K (.ref C) "__init__" = some (some (.ref fI)) ∧ PySem.W.typeIn K (.ref fI) = some (.type "function") ∧
    FnOk P w K mg base (L2.CX P w) 1 fI fd ps (spX C f T) ∧ Binds K fd ps []
/-- what the head tells of such a class -/
def ExF (K : PySem.W.Frag) (mg : Str → Option Value) (c f qual : Str) (st : Stmt) : Prop := ∃ C fI fd, mg c = some (.ref C) ∧ OexC K C ∧ PySem.W.findIn K (.ref C) "__init__" = some (some (.ref fI)) ∧ PySem.W.typeIn K (.ref fI) = some (.type "function") ∧
  Fun K "__init__" qual st fI fd ∧ Binds K fd [("self" : Str), f] [] ∧ PySem.W.findIn K (.ref C) f = some none ∧ PySem.W.findIn K (.ref C) "tag" = some none
theorem exk_of {P : Program} {w : World} {K : PySem.W.Frag} {mg : Str → Option Value} {base : Heap} {tb : List (Addr × Str)} {c f qual T : Str} {st : Stmt} (h : ExF K mg c f qual st) (S : FnScope [("self" : Str), f] [("self" : Str), f] (defScope st))
    (hp : ∀ X : Cx, X.N = [("self" : Str), f] → X.env.scope = defScope st → PSs X (defBody st) (tSeq (tOst X.K f (tVar 0) (tVar 1)) (tOst X.K "tag" (tVar 0) (tC (.str T))))) : ExK P w K mg base (clsOf mg tb) c f T := by
  obtain ⟨C, fI, fd, h1, hO, hi, hty, F, hb, hf, ht⟩ := h
  refine ⟨C, fI, fd, _, h1, clsOf_eq h1, hO, hi, hty, F.okX S (fun vs H Q E h => by obtain ⟨a, v, rfl, _⟩ := h; rfl) (fun cdv A outer s H vs Q E hr h => ?_), hb⟩
  obtain ⟨a, v, rfl, ha, q⟩ := h
  refine ⟨_, hp _ rfl rfl, v, rfl, .ref a, rfl, a, C, rfl, hO, hf, .inl ⟨ha, fun dx nd ne => ⟨.ref a, rfl, a, C, rfl, hO, ht, .inr ⟨dx, [(f, v)], upd_same, ?_, by simp, q dx nd ne⟩⟩⟩⟩
  rw [upd_ne ne]; exact upd_same
def sRaise (c f T : Str) (fe : EM) : SM := fun S w => (fe S w).to S fun d w1 => .err S c [("tag", .str T), (f, d)] w1
section
variable {X : Cx} {g : G} {E : EK} {F0 : FH} {H0 : Hp} {e : Expr} {pos p pos2 : Pos} {fe : EM} {c f T : Str}
theorem ds_raise (hc : X.calm = true) (M : ExK X.prog X.w X.K X.mg X.base g.cls c f T) (hr : Room 2 X.A) (tk : Takes X (fun cls d σ H => E σ cls d H)) (ha : DE X g E e fe) (hx : Passes (L2.CX X.prog X.w) X (fun _ _ _ => False)) (hg : Gl X c := by rfl) (hdb : (c == ("__debug__" : Str)) = false := by decide)
    (he : starEach [e] X.env = [(false, eval e X.env)] := by rfl) : DS X g E F0 H0 (.Raise (some (.Call (.Name c p) [e] [] pos)) none pos2) (sRaise c f T fe) := by
  obtain ⟨C, fI, fd, ps, hm, hcl, hO, hi, hty, F, hb⟩ := M.ex
  obtain ⟨ta, pa, ra⟩ := ha.run
  refine ⟨_, ps_raise hc tk (pmk_oex (CX := L2.CX X.prog X.w) hO hi hty F hr hb .nil hx hg hm (pa_cons pa pa_nil he) hdb he), fun N σ H F S w B R h => ?_⟩
  refine ra σ H _ F S w R.rel (PostG.imp (PostS.to R h) fun d w1 _ h1 v H1 F1 x1 r1 => ?_)
  refine ⟨by show 1 ≤ 1000; decide, fun a na => ⟨a, v, rfl, upd_same, fun dx nd ne => ?_⟩⟩
  have nd1 : H1 dx = none := by rw [upd_ne ne] at nd; exact nd
  refine ⟨rfl, dx, [("tag", .str T), (f, v)], ?_, upd_same, nd1, ?_⟩
  · rw [upd_ne ne.symm]; exact upd_same
  · have eq : upd (del (upd (upd (upd (upd H1 a (exo a C none)) dx (exd dx [(f, v)])) a (exo a C (some dx))) dx (exd dx [("tag", .str T), (f, v)])) a) dx (.xd [("tag", .str T), (f, v)]) = upd H1 dx (.xd [("tag", .str T), (f, v)]) := by
      funext b
      by_cases e1 : b = dx
      · rw [e1, upd_same, upd_same]
      · rw [upd_ne e1, upd_ne e1]
        by_cases e2 : b = a
        · rw [e2, del_same, na]
        · rw [del_ne e2, upd_ne e1, upd_ne e2, upd_ne e1, upd_ne e2]
    rw [eq]
    have x2 := Ext.own (o := .xd [("tag", .str T), (f, v)]) x1.sub x1.bx nd1
    exact h1 σ _ F1 (R.ext' (x1.trans x2)) C dx _ (R.ext.fresh (x1.fresh nd1)) hcl upd_same (.cons (.str T) (.cons r1 .nil))
end
end Y
namespace Y
open PySem PySem.Spec PyProof.Rows L2
/-! ### a lambda, handed to a def of the law -/
/-- all but the tables stay, and nothing that was known is gone -/
structure ExtL (T : List (Addr × Str)) (H H1 : Hp) : Prop where
  ext : LamX.ExtN H H1
  dom : ∀ b, H1 b = none → H b = none
  tabs : LamX.Tabs T H1
section
variable {X : Cx} {pins : List (Addr × Obj)} {σ : L2.St} {H : Hp} {s : Shared}
theorem lam_made {T : List (Addr × Str)} {c P : Addr} {params : Arguments} {body : Expr} {scope : Scope} {pos : Pos} {E : Value → Shared → Prop} {Q : Value → Shared → Prop} (I : Inv X pins σ H s) (TB : LamX.TabB X.base X.mg c P) (hcode : X.env.code = .ref c) (hm : (P, X.env.qual ++ "<lambda>") ∈ T)
    (hu : ∀ p ∈ T, p.1 = P → p.2 = X.env.qual ++ "<lambda>") (hT : LamX.Tabs T H) (hdef : defaultsOf params X.env = ([], [])) (hfree : ∀ y ∈ scope.names, y.2 = .free → ∃ c, X.env.cells.lookup y.1 = some c)
    (h : ∀ (f c' : Addr) (pm ctv : Value) (H1 : Hp) (s' : Shared), Inv X pins σ H1 s' → ExtL T H H1 → s'.heap.get? f = some (PySem.W.kla_obj "<lambda>" (X.env.qual ++ "<lambda>") params body scope (cloFrom X.env.cells scope.names []) pm c' ctv) → H1 f = none → f ∉ frs X.stack →
      H1 c' = some (LamX.CodeO c' (X.env.qual ++ "<lambda>")) → Q (.ref f) s') : wpAny (model X.prog X.w) X.A (eval (.Lambda params body scope pos) X.env) Q E s := by
  obtain ⟨tab, tabH, tabOk, tabC⟩ := hT _ hm
  refine PySem.W.kla_eval hdef ?_
  have bP : s.heap.BuiltinsAt X.mg P := TB.bm.keeps I.bk
  have tabS : s.heap.get? P = some { cls := .none, data := .fields tab } := I.hok P _ tabH
  have away : ∀ f, s.heap.objs.size ≤ f → f ∉ frs X.stack := fun f hf z => by
    rcases List.mem_cons.mp (I.stkSub _ z) with e | e
    · have lt0 := I.lt
      rw [← e] at lt0
      exact absurd (Nat.lt_of_lt_of_le lt0 hf) (Nat.lt_irrefl _)
    · exact I.nofs hf e
  cases hc : codeAmong pos tab.toList with
  | some cv =>
    obtain ⟨c', rfl, hco⟩ := tabC pos cv hc
    refine PySem.W.kla_makeFunctionHit (mg := X.mg) (c := c) (P := P) (ps := tab) (closure_ok hfree) I.ok.glob (I.mod.glob.keeps I.bk) hcode (TB.code.keeps I.bk) tabS tabOk hc bP fun ctv h' tk hx hsz => ?_
    refine h h'.objs.size c' ((X.mg "__name__").getD .none) ctv H _ (I.kept fun b o e => Heap.get?_push_of_some _ (hx b o e)) ⟨LamX.ExtN.refl H, fun _ z => z, hT⟩ (Heap.get?_push_size _ rfl) (I.hok.fresh hsz) (away _ hsz) hco
  | none =>
    refine PySem.W.kla_makeFunction (mg := X.mg) (c := c) (P := P) (ps := tab) (closure_ok hfree) I.ok.glob (I.mod.glob.keeps I.bk) hcode (TB.code.keeps I.bk) tabS tabOk hc TB.gP bP fun c' ctv h' tk hx hge hlt hrec htb => ?_
    obtain ⟨c2, oc, us, t, e2, k1, k2, k3⟩ := hrec
    cases e2
    have big : s.heap.objs.size ≤ h'.objs.size := by omega
    have nC : H c' = none := I.hok.fresh hge
    have lst : (tab ++ #[rawInt pos.line, rawInt pos.col, .ref c']).toList = tab.toList ++ [rawInt pos.line, rawInt pos.col, .ref c'] := by simp
    have J := LamX.inv_table (q := X.env.qual ++ "<lambda>") (t' := tk) (more := #[rawInt pos.line, rawInt pos.col, .ref c']) (h' := h'.push (PySem.W.kla_obj "<lambda>" (X.env.qual ++ "<lambda>") params body scope (cloFrom X.env.cells scope.names []) ((X.mg "__name__").getD .none) c' ctv)) I tabH
      (fun b o hb e => Heap.get?_push_of_some _ (hx b o hb e)) (Heap.get?_push_of_some _ htb) hge ⟨oc, us, t, Heap.get?_push_of_some _ k1, k2, k3⟩
    have ex : LamX.ExtN H (upd (upd H P (.tbl (tab ++ #[rawInt pos.line, rawInt pos.col, .ref c']))) c' (LamX.CodeO c' (X.env.qual ++ "<lambda>"))) := fun b o e n => by
      have b1 : b ≠ c' := ne_of_none e nC
      have b2 : b ≠ P := fun z => n tab (Option.some.inj (e.symm.trans (by rw [z]; exact tabH)))
      rw [upd_ne b1, upd_ne b2]; exact e
    have lt1 : s.heap.objs.size ≤ h'.objs.size := big
    refine h h'.objs.size c' ((X.mg "__name__").getD .none) ctv _ _ J ⟨ex, fun b z => NdefX.upd_none (NdefX.upd_none z), fun p hp => ?_⟩ (Heap.get?_push_size _ rfl) ?_ (away _ big) upd_same
    · by_cases hb : p.1 = P
      · rw [hu p hp hb, hb]
        refine ⟨_, by rw [upd_ne (ne_of_none tabH nC), upd_same], by rw [lst]; exact PySem.TriplesOk_snoc _ _ _ _ tabOk, fun p' cv hcv => ?_⟩
        rw [lst] at hcv
        rcases LamX.among_app _ tabOk hcv with z | z
        · obtain ⟨c0, e1, e2⟩ := tabC p' cv z
          exact ⟨c0, e1, ex _ _ e2 LamX.codeO_ne⟩
        · exact ⟨c', z, upd_same⟩
      · obtain ⟨tab2, a1, a2, a3⟩ := hT p hp
        refine ⟨tab2, by rw [upd_ne (ne_of_none a1 nC), upd_ne hb]; exact a1, a2, fun p' cv hcv => ?_⟩
        obtain ⟨c0, e1, e2⟩ := a3 p' cv hcv
        exact ⟨c0, e1, ex _ _ e2 LamX.codeO_ne⟩
    · have n1 : h'.objs.size ≠ c' := by omega
      have n2 : h'.objs.size ≠ P := fun z => absurd (Nat.lt_of_lt_of_le (Heap.lt_size tabS) (z ▸ big)) (Nat.lt_irrefl _)
      rw [upd_ne n1, upd_ne n2]
      exact I.hok.fresh big
end
def tLamD (T : List (Addr × Str)) (TT : (XK → Hp → VK → Prop) → Hp → VK → Prop) (t : XK → TE) : TE := fun σ H Q => LamX.Tabs T H ∧ ∀ H1, ExtL T H H1 → TT (fun E H' Q' => t E σ H' Q') H1 Q
section
variable {X : Cx}
theorem pe_lamD {T : List (Addr × Str)} {TT : (XK → Hp → VK → Prop) → Hp → VK → Prop} {x a : Str} {g c P : Addr} {k : Nat} {pg : Arguments} {bg : List Stmt} {sg : Scope} {dV kV doc pm cdv ct oc : Value} {an od : Option Addr} {osl : Array (Option Value)} {Ng : List Str} {params : Arguments} {body : Expr} {scope : Scope} {t : XK → TE} {p lpos pos : Pos}
    (hg : Gl X x) (hm : X.mg x = some (.ref g)) (hk : PySem.W.keepIn X.K (.ref g) = true) (lk : X.K.lookup g = some ⟨oc, od, .func (PySem.W.fnOf x x pg bg sg dV kV doc pm an cdv ct), osl⟩) (hcg : PySem.W.codeIn X.K cdv x = true) (hb : L2.Binds X.K (PySem.W.fnOf x x pg bg sg dV kV doc pm an cdv ct) [a] [])
    (Sg : FnScope Ng [a] sg) (hNg : Ng[0]? = some a) (hva : Vis sg a) (hG : LamX.GivesTo X Ng x sg g cdv bg a (X.env.qual ++ "<lambda>") TT) (TB : LamX.TabB X.base X.mg c P) (hcode : X.env.code = .ref c) (hmT : (P, X.env.qual ++ "<lambda>") ∈ T) (hu : ∀ p ∈ T, p.1 = P → p.2 = X.env.qual ++ "<lambda>")
    (hr : Room (k + 2) X.A) (L : LamX.LamS X.env.scope scope) (hdef : defaultsOf params X.env = ([], [])) (hbind : ∀ (q : Str) (cl : List (Str × Addr)) (pm cv ctv : Value), bindArgs (PySem.W.kla_fn "<lambda>" q params body scope cl pm cv ctv) ⟨[], []⟩ = pure [])
    (hbody : ∀ (A : Around) (outer : List Env) (s : Shared) (H : Hp) (E : XK) (f c' : Addr), Room k (A.deeper (LamX.lamEnv X scope s.heap.objs.size f c')) → PE (LamX.lamCx X A outer s H E scope f c') body (t E))
    (hdb : (x == ("__debug__" : Str)) = false := by decide) (hd : (a == ("__debug__" : Str)) = false := by decide) (hcd : (a == ("__classdict__" : Str)) = false := by decide) : PE X (.Call (.Name x p) [.Lambda params body scope lpos] [] pos) (tLamD T TT t) := by
  refine ⟨fun pins s σ H Q I ⟨hT, h⟩ => ?_⟩
  refine wpAny_Call_Name_kw (ld_glob I hg hm (PySem.W.callWith_K (h₀ := X.base) I.ok.mod.kin hk ?_ (by rfl) (by rfl)) hdb)
  show wpAny _ _ (spliced ((false, eval (.Lambda params body scope lpos) X.env) :: backTo pos (starEach [] X.env))) _ _ s
  refine Calls.spliced_cons (lam_made I TB hcode hmT hu hT hdef (L.has I.ok) fun f c' pm' ctv H1 s' J eN hf hfn hfr hco => Calls.spliced_nil ⟨J.kIn, ?_⟩)
  have out : codeAny (model X.prog X.w) X.A (.call (.ref g) ⟨[.ref f], []⟩) (CR C8.CX0 X.stack X.prog X.w H1 s' Q C8.E0) s' :=
    LamX.run_ofS (N := Ng) (ps := [a]) (us := [.ref f]) (vs := [.ref f]) lk hcg Sg hr J.env0 (hb s' [.ref f] J.kIn rfl) (.cons rfl .nil) rfl fun hr' => by
      obtain ⟨t', ht', hq'⟩ := hG f c' s' H1 Q (fun E H' Q' => t E σ H' Q') (fun W pn xe E p1 p2 tk hW => LamX.pe_act (i := 0) J L hf hfn hfr (hbind _ _ _ _ _) tk hW hr' (fun A outer s H hr2 => hbody A outer s H E f c' hr2) hNg hva hd hcd) hco (h H1 eN)
      exact ⟨t', ht'.nox, hq'⟩
  refine wpAny_call (codeAny_mono out fun r s2 hq => ?_)
  match r, hq with
  | .ok (.ret u), hq => exact J.after hq
  | .error e, hq => exact (show False from hq).elim
  | .ok .next, hq => exact False.elim hq
  | .ok .brk, hq => exact False.elim hq
  | .ok .cont, hq => exact False.elim hq
end
end Y
namespace Y
open PySem PySem.Spec PyProof.Rows L2
/-! ### the def that tells which error a call raises -/
theorem Takes.len {X : Cx} {W : WX} (tk : Takes X W) : Takes X (fun cls d σ H => σ.length = X.N.length → W cls d σ H) := fun u s' ⟨a, B, sI, pins, σ, H, cls, d, e, I, nb, up, sky, na, os, ag, w⟩ => tk u s' ⟨a, B, sI, pins, σ, H, cls, d, e, I, nb, up, sky, na, os, ag, w I.len⟩
/-- the clause that takes the class tells the field F -/
def hits (K : PySem.W.Frag) (cls : Value) (F : Str) : List (List Value × Str) → Prop
  | [] => False
  | (cs, F') :: r => (PySem.W.exmAny K cls cs = some true ∧ F' = F) ∨ (PySem.W.exmAny K cls cs = some false ∧ hits K cls F r)
/-- the fields of an error of the class at C -/
structure XrK (K : PySem.W.Frag) (C : Addr) (F : Str) : Prop where
  xf : XfC K C
  tag : PySem.W.findIn K (.ref C) "tag" = some none
  fld : F ≠ "" → PySem.W.findIn K (.ref C) F = some none
def fldV (fs : List (Str × V)) (F : Str) (v : V) : Prop := if F = "" then v = .non else fs.lookup F = some v
/-- told = (e.tag, e.F) -/
def tsRef (K : PySem.W.Frag) (F : Str) : Addr → Value → Option Addr → TS := fun a cls d D σ H => ∃ C, cls = .ref C ∧ XrK K C F ∧ σ[(2 : Nat)]? = some (some (.ref a)) ∧ ∃ dd fs tv fv, d = some dd ∧ H dd = some (.xd fs) ∧ fs.lookup ("tag" : Str) = some tv ∧ fldV fs F fv ∧ ∀ p, H p = none → D.nx (σ.set 1 (some (.ref p))) (upd H p (.tup [tv, fv]))
inductive NmsS (sg : Scope) (mg : Str → Option Value) : List Expr → List Value → Prop
  | nil : NmsS sg mg [] []
  | cons {x : Str} {c : Value} {np : Pos} {es : List Expr} {cs : List Value} (hg : sg.names.lookup x = some .globalImplicit) (hm : mg x = some c) (hd : (x == ("__debug__" : Str)) = false) (r : NmsS sg mg es cs) : NmsS sg mg (.Name x np :: es) (c :: cs)
inductive TstS (sg : Scope) (mg : Str → Option Value) : Expr → List Value → Prop
  | one {x : Str} {c : Value} {np : Pos} (hg : sg.names.lookup x = some .globalImplicit) (hm : mg x = some c) (hd : (x == ("__debug__" : Str)) = false) : TstS sg mg (.Name x np) [c]
  | tup {es : List Expr} {cs : List Value} {k : Nat} {tp : Pos} (r : NmsS sg mg es cs) (h2 : 2 ≤ cs.length) (h5 : cs.length ≤ 5) : TstS sg mg (.Tuple es k tp) cs
inductive RefH (sg : Scope) (mg : Str → Option Value) (told en : Str) : List ExceptHandler → List (List Value × Str) → Prop
  | nil : RefH sg mg told en [] []
  | fld {t : Expr} {cs : List Value} {F : Str} {k : Nat} {q1 q2 q3 q4 q5 q6 q7 cpos : Pos} {hds : List ExceptHandler} {l : List (List Value × Str)} (ht : TstS sg mg t cs) (hF : F ≠ "") (r : RefH sg mg told en hds l) :
      RefH sg mg told en (.ExceptHandler (some t) (some en) [.Assign [.Name told q1] (.Tuple [.Attribute (.Name en q2) "tag" q3, .Attribute (.Name en q4) F q5] k q6) q7] cpos :: hds) ((cs, F) :: l)
  | non {t : Expr} {cs : List Value} {k j : Nat} {q1 q2 q3 q4 q6 q7 cpos : Pos} {hds : List ExceptHandler} {l : List (List Value × Str)} (ht : TstS sg mg t cs) (r : RefH sg mg told en hds l) :
      RefH sg mg told en (.ExceptHandler (some t) (some en) [.Assign [.Name told q1] (.Tuple [.Attribute (.Name en q2) "tag" q3, .Constant .none j q4] k q6) q7] cpos :: hds) ((cs, "") :: l)
theorem nmsS_ok {Z : Cx} {es : List Expr} {cs : List Value} (h : NmsS Z.env.scope Z.mg es cs) : NmsOk Z es cs := by
  induction h with
  | nil => exact .nil
  | cons hg hm hd r ih => exact .cons hg hm hd ih
theorem tstS_ok {Z : Cx} {t : Expr} {cs : List Value} (h : TstS Z.env.scope Z.mg t cs) : TestE Z t cs := by
  cases h with
  | one hg hm hd => exact test_one hg hm hd
  | tup r h2 h5 => exact test_tup (nmsS_ok r) h2 h5
theorem refH_ok {Z : Cx} {told en : Str} {hds : List ExceptHandler} {l : List (List Value × Str)} (hN : Z.N.Nodup) (h1 : Z.N[(1 : Nat)]? = some told) (h2 : Z.N[(2 : Nat)]? = some en) (l1 : Z.env.scope.names.lookup told = some .local) (l2 : Z.env.scope.names.lookup en = some .local)
    (d1 : (en == ("__debug__" : Str)) = false) (d2 : (en == ("__classdict__" : Str)) = false)
    (hsw : ∀ (pn : List (Addr × Obj)) (a : Addr) (v : Expr) (q : Pos) (n : Nat), (∃ es k q6, v = .Tuple es k q6) → swapsWith v (some (.Name told q)) n Z.env = pure false) (hab : ∀ (n : Str) (q2 : Pos), attributeBase (.Name en q2) n Z.env (eval (.Name en q2) Z.env) = eval (.Name en q2) Z.env)
    (h : RefH Z.env.scope Z.mg told en hds l) : ClsOk Z en hds (l.map fun p => (p.1, tsRef Z.K p.2)) := by
  induction h with
  | nil => exact .nil
  | fld ht hF r ih =>
    refine .cons (tstS_ok ht) (fun a oe cls d pn hz hf => ⟨fun pins s σ H D I h => ?_⟩) ih
    obtain ⟨C, rfl, hx, h0, dd, fs, tv, fv, rfl, e1, e2, e3, k⟩ := h
    unfold fldV at e3
    rw [if_neg hF] at e3
    have pv2 : ∀ q : Pos, PE (Z.suite a ((a, oe) :: pn)) (.Name en q) (tVar 2) := fun q => pe_var (i := 2) h2 (.inl l2) d1 d2
    exact (pss_one (ps_set (X := Z.suite a ((a, oe) :: pn)) (i := 1) hN h1 (.inl l1) (pe_tup (pa_cons (pe_xf hx.xf hx.tag hz hf (pv2 _) (hab _ _)) (pa_cons (pe_xf hx.xf (hx.fld hF) hz hf (pv2 _) (hab _ _)) pa_nil (by rfl)) (by rfl))) (hsw pn a _ _ _ ⟨_, _, _, rfl⟩) (.inr l1))).run pins s σ H D I
      ⟨.ref a, h0, rfl, rfl, dd, fs, tv, rfl, e1, e2, .ref a, h0, rfl, rfl, dd, fs, fv, rfl, e1, e3, by show 2 ≤ sizeLine; rw [sizeLine_eq]; decide, fun p np => k p np⟩
  | non ht r ih =>
    refine .cons (tstS_ok ht) (fun a oe cls d pn hz hf => ⟨fun pins s σ H D I h => ?_⟩) ih
    obtain ⟨C, rfl, hx, h0, dd, fs, tv, fv, rfl, e1, e2, e3, k⟩ := h
    unfold fldV at e3
    rw [if_pos rfl] at e3
    subst e3
    have pv2 : ∀ q : Pos, PE (Z.suite a ((a, oe) :: pn)) (.Name en q) (tVar 2) := fun q => pe_var (i := 2) h2 (.inl l2) d1 d2
    exact (pss_one (ps_set (X := Z.suite a ((a, oe) :: pn)) (i := 1) hN h1 (.inl l1) (pe_tup (pa_cons (pe_xf hx.xf hx.tag hz hf (pv2 _) (hab _ _)) (pa_cons pe_non pa_nil (by rfl)) (by rfl))) (hsw pn a _ _ _ ⟨_, _, _, rfl⟩) (.inr l1))).run pins s σ H D I
      ⟨.ref a, h0, rfl, rfl, dd, fs, tv, rfl, e1, e2, by show 2 ≤ sizeLine; rw [sizeLine_eq]; decide, fun p np => k p np⟩
/-- what the def makes of the call's reading -/
def TTref (K : PySem.W.Frag) (cl : List (List Value × Str)) : (XK → Hp → VK → Prop) → Hp → VK → Prop := fun tl H Q => ∀ p, H p = none → tl (fun cls d H' => ∃ F, hits K cls F cl ∧ ∃ C, cls = .ref C ∧ XrK K C F ∧ ∃ dd fs tv fv, d = some dd ∧ H' dd = some (.xd fs) ∧ fs.lookup ("tag" : Str) = some tv ∧ fldV fs F fv ∧
  ∀ p2, H' p2 = none → Q (.ref p2) (upd H' p2 (.tup [tv, fv]))) (upd H p (.tup [.str "", .non])) (fun _ H' => ∃ v, (some (some (V.ref p)) : Option (Option V)) = some (some v) ∧ Q v H')
theorem wcl_of {K : PySem.W.Frag} {D : Ends} {cls : Value} {d : Option Addr} {σ : L2.St} {H' : Hp} {F : Str} {C : Addr} (hc : cls = .ref C) (hx : XrK K C F) {dd : Addr} {fs : List (Str × V)} {tv fv : V} (h1 : d = some dd) (h2 : H' dd = some (.xd fs)) (h3 : fs.lookup ("tag" : Str) = some tv) (h4 : fldV fs F fv)
    (hl : σ.length = 3) (k : ∀ p, H' p = none → ∀ σ2 : L2.St, σ2.length = 3 → σ2[(1 : Nat)]? = some (some (.ref p)) → D.nx σ2 (upd H' p (.tup [tv, fv]))) : ∀ {cl : List (List Value × Str)}, hits K cls F cl → wClauses K 2 (fun _ _ _ _ => False) D (cl.map fun p => (p.1, tsRef K p.2)) cls d σ H'
  | [], h => h.elim
  | (cs, F') :: r, h => by
    rcases h with ⟨e1, rfl⟩ | ⟨e1, e2⟩
    · refine ⟨true, e1, fun _ a na => ⟨C, hc, hx, List.getElem?_set_self (by omega), dd, fs, tv, fv, h1, h2, h3, h4, fun p np => ?_⟩, fun z => by cases z⟩
      refine k p np _ (by simp [hl]) ?_
      rw [List.getElem?_set_ne (by decide)]
      exact List.getElem?_set_self (by simp [hl])
    · exact ⟨false, e1, (fun z => by cases z), fun _ => wcl_of hc hx h1 h2 h3 h4 hl k e2⟩
theorem ref_gives {X : Cx} {told en ask x q : Str} {sg : Scope} {g : Addr} {cdg : Value} {hd0 : ExceptHandler} {hds : List ExceptHandler} {cl : List (List Value × Str)} {j1 j2 k1 : Nat} {p1 p2 p3 p4 p5 p6 p7 p8 p9 p10 p11 : Pos} (hN : ([ask, told, en] : List Str).Nodup) (l1 : sg.names.lookup told = some .local) (l2 : sg.names.lookup en = some .local) (d0 : (told == ("__debug__" : Str)) = false) (d3 : (told == ("__classdict__" : Str)) = false)
    (d1 : (en == ("__debug__" : Str)) = false) (d2 : (en == ("__classdict__" : Str)) = false) (hr : RefH sg X.mg told en (hd0 :: hds) cl) :
    LamX.GivesTo X [ask, told, en] x sg g cdg [.Assign [.Name told p1] (.Tuple [.Constant (.str "") j1 p2, .Constant .none j2 p3] k1 p4) p5, .Try [.Expr (.Call (.Name ask p6) [] [] p7) p8] (hd0 :: hds) [] [] p9, .Return (some (.Name told p10)) p11] ask q (TTref X.K cl) := by
  intro f c' s H Q tl act hc h
  generalize hZ : (cxOf C8.CX0 X.prog X.w X.K X.mg X.base [ask, told, en] x sg g cdg X.A X.stack s H C8.E0).nox = Z
  have zK : Z.K = X.K := by rw [← hZ]; rfl
  have zN : Z.N = [ask, told, en] := by rw [← hZ]; rfl
  have zs : Z.env.scope = sg := by rw [← hZ]; rfl
  have zm : Z.mg = X.mg := by rw [← hZ]; rfl
  have hcls : ClsOk Z en (hd0 :: hds) (cl.map fun p => (p.1, tsRef Z.K p.2)) := by
    refine refH_ok (by rw [zN]; exact hN) (by rw [zN]; rfl) (by rw [zN]; rfl) (by rw [zs]; exact l1) (by rw [zs]; exact l2) d1 d2 (fun pn a v q n hv => ?_) (fun n q2 => ?_) (by rw [zs, zm]; exact hr)
    · obtain ⟨es, k, q6, rfl⟩ := hv; rfl
    · rfl
  rw [zK] at hcls
  refine ⟨_, pss_cons (ps_set (X := Z) (i := 1) (by rw [zN]; exact hN) (by rw [zN]; rfl) (.inl (by rw [zs]; exact l1)) (pe_tup (pa_cons pe_str (pa_cons pe_non pa_nil (by rfl)) (by rfl))) (by rfl) (.inr (by rw [zs]; exact l1)))
    (pss_cons (ps_tryAs (X := Z) (i := 2) (n := en) (Wout := fun _ _ _ _ => False) (l := cl.map fun p => (p.1, tsRef X.K p.2))
      (tb := fun W D σ H => ∃ Ech : XK, (∀ cls d σ' H', Ech cls d H' → σ'.length = 3 → W cls d σ' H') ∧ σ[(0 : Nat)]? = some (some (.ref f)) ∧ H c' = some (LamX.CodeO c' q) ∧ tl Ech H (fun _ H' => D.nx σ H'))
      (by rw [← hZ]; rfl) (by rw [← hZ]; rfl) (by rw [zN]; exact hN) (by rw [zN]; rfl) (by show Z.env.scope.names.lookup en = _; rw [zs]; exact l2) LamX.takes0 (fun W pn xe tk _ => ?_) hcls)
    (pss_one (ps_ret (pe_var (i := 1) (by rw [zN]; rfl) (.inl (by rw [zs]; exact l1)) d0 d3)))), ?_⟩
  · refine ⟨fun pins s' σ H' D I h' => ?_⟩
    obtain ⟨Ech, hW, h1, h2, h3⟩ := h'
    have tk' := Takes.len tk
    subst hZ
    have hp := act (fun cls d σ H => σ.length = 3 → W cls d σ H) pn xe Ech p6 p7 tk' (fun cls d σ' H' z hl => hW cls d σ' H' z hl)
    have hq := pss_one (ps_expr (pos := p8) hp (by rfl))
    exact hq.run pins s' σ H' D I ⟨h1, h2, h3⟩
  · refine ⟨by show 2 ≤ sizeLine; rw [sizeLine_eq]; decide, fun p np => ?_⟩
    have hc1 : upd H p (.tup [.str "", .non]) c' = some (LamX.CodeO c' q) := by rw [upd_ne (ne_of_none hc np)]; exact hc
    refine ⟨_, fun cls d σ' H' he hl => ?_, rfl, hc1, h p np⟩
    obtain ⟨F, hh, C, e1, hx, dd, fs, tv, fv, e2, e3, e4, e5, k⟩ := he
    rw [zK]
    refine wcl_of e1 hx e2 e3 e4 e5 hl (fun p2 np2 σ2 hl2 h1 => ?_) hh
    exact ⟨.ref p2, h1, k p2 np2⟩
end Y
namespace Y
open PySem PySem.Spec PyProof.Rows L2
/-! ### what a call that may raise tells -/
def refF (fs : List (Str × D)) (F : Str) : Option D := if F = "" then some .non else fs.lookup F
def refD (tbl : List (Str × Str)) : R D → R D
  | .ok _ w => .ok (.tup [.str "", .non]) w
  | .err c fs w => match tbl.lookup c with
    | some F => match fs.lookup ("tag" : Str), refF fs F with
      | some t, some v => .ok (.tup [t, v]) w
      | _, _ => .bad
    | none => .bad
  | .bad => .bad
def eRef (tbl : List (Str × Str)) (fb : EM) : EM := fun S w => refD tbl (fb S w)
theorem Ext.lamL {g : G} {F : FH} {H H1 : Hp} {w : Bx} (s : Same F H) (b : BxOk g F w H) (e : ExtL g.cls.tb H H1) : Ext g F H F H1 w := by
  have k : ∀ a o, (∀ ps, o ≠ .tbl ps) → H a = some o → H1 a = some o := fun a o n h => e.ext a o h n
  have kn : ∀ a, H a ≠ none → (∀ ps, H a ≠ some (.tbl ps)) → H1 a = H a := fun a n nt => by
    cases q : H a with
    | none => exact absurd q n
    | some o => exact k a o (fun ps z => nt ps (by rw [q, z])) q
  refine ⟨FSame.refl F, fun a o _ _ nt h => k a o nt h, e.dom, fun _ _ h => .inl h, fun _ _ h => .inl h, fun a o h => k a o (fun ps z => b.ntb a ps (by rw [h, z])) (s a o h), ?_⟩
  refine ⟨?_, b.no, b.big0, b.mk0, b.mk1, b.nc, fun i c h => ?_, b.adl, b.inj, e.tabs, b.ntb⟩
  · obtain ⟨c, h1, h2⟩ := b.at_
    exact ⟨c, k _ _ (fun _ z => by cases z) h1, h2⟩
  · obtain ⟨a, h1, h2, h3, h4⟩ := b.cel i c h
    refine ⟨a, h1, h2, h3, h4.keep (FSame.refl F) ?_ fun x y q => k _ _ (fun _ z => by cases z) q⟩
    refine kn a h4.at_ fun ps z => ?_
    cases c with
    | lst ds => obtain ⟨vs, e1, _⟩ := h4; rw [e1] at z; cases z
    | dct ds => obtain ⟨vs, e1, _⟩ := h4; rw [e1] at z; cases z
    | obj c ds => obtain ⟨C, dx, vs, e1, _⟩ := h4; rw [e1] at z; cases z
/-- the def that tells an error, and the classes that it tells of -/
structure RefK (K : PySem.W.Frag) (mg : Str → Option Value) (cls : CT) (x : Str) (tbl : List (Str × Str)) : Prop where
  ex : ∃ (ga : Addr) (ask told en : Str) (pg : Arguments) (sg : Scope) (dV kV doc pm cdv ct oc : Value) (an od : Option Addr) (osl : Array (Option Value)) (hd0 : ExceptHandler) (hds : List ExceptHandler) (cl : List (List Value × Str)) (j1 j2 k1 : Nat) (p1 p2 p3 p4 p5 p6 p7 p8 p9 p10 p11 : Pos),
    mg x = some (.ref ga) ∧ PySem.W.keepIn K (.ref ga) = true ∧
    K.lookup ga = some ⟨oc, od, .func (PySem.W.fnOf x x pg [.Assign [.Name told p1] (.Tuple [.Constant (.str "") j1 p2, .Constant .none j2 p3] k1 p4) p5, .Try [.Expr (.Call (.Name ask p6) [] [] p7) p8] (hd0 :: hds) [] [] p9, .Return (some (.Name told p10)) p11] sg dV kV doc pm an cdv ct), osl⟩ ∧
    PySem.W.codeIn K cdv x = true ∧ L2.Binds K (PySem.W.fnOf x x pg [.Assign [.Name told p1] (.Tuple [.Constant (.str "") j1 p2, .Constant .none j2 p3] k1 p4) p5, .Try [.Expr (.Call (.Name ask p6) [] [] p7) p8] (hd0 :: hds) [] [] p9, .Return (some (.Name told p10)) p11] sg dV kV doc pm an cdv ct) [ask] [] ∧
    FnScope [ask, told, en] [ask] sg ∧ sg.names.lookup ask = some .local ∧ sg.names.lookup told = some .local ∧ sg.names.lookup en = some .local ∧ ([ask, told, en].all fun y => !(y == ("__debug__" : Str)) && !(y == ("__classdict__" : Str))) = true ∧ RefH sg mg told en (hd0 :: hds) cl ∧
    ∀ c F, tbl.lookup c = some F → ∃ C, cls c = some C ∧ XrK K C F ∧ hits K (.ref C) F cl
section
variable {X : Cx} {g : G} {E : EK} {x : Str} {tbl : List (Str × Str)}
theorem de_refused {k : Nat} {c P : Addr} {params : Arguments} {body : Expr} {scope : Scope} {fb : EM} {p lpos pos : Pos} (hK : g.K = X.K) (M : RefK X.K X.mg g.cls x tbl) (TB : LamX.TabB X.base X.mg c P) (hcode : X.env.code = .ref c) (hmT : (P, X.env.qual ++ "<lambda>") ∈ g.cls.tb)
    (hu : ∀ q ∈ g.cls.tb, q.1 = P → q.2 = X.env.qual ++ "<lambda>") (hr : Room (k + 2) X.A) (hbody : ∀ (A : Around) (outer : List Env) (s : Shared) (H : Hp) (E : XK) (f c' : Addr), Room k (A.deeper (LamX.lamEnv X scope s.heap.objs.size f c')) → DE (LamX.lamCx X A outer s H E scope f c') g (kE E) body fb)
    (L : LamX.LamS X.env.scope scope) (hg : Gl X x := by rfl) (hdef : defaultsOf params X.env = ([], []) := by rfl) (hbind : ∀ (q : Str) (cl : List (Str × Addr)) (pm cv ctv : Value), bindArgs (PySem.W.kla_fn "<lambda>" q params body scope cl pm cv ctv) ⟨[], []⟩ = pure [] := by intros; rfl) (hdb : (x == ("__debug__" : Str)) = false := by decide) :
    DE X g E (.Call (.Name x p) [.Lambda params body scope lpos] [] pos) (eRef tbl fb) := by
  obtain ⟨ga, ask, told, en, pg, sg, dV, kV, doc, pm, cdv, ct, oc, an, od, osl, hd0, hds, cl, j1, j2, k1, p1, p2, p3, p4, p5, p6, p7, p8, p9, p10, p11, hm, hk, lk, hcg, hb, Sg, la, lt, le, hall, hR, hcl⟩ := M.ex
  have hall : ∀ y ∈ [ask, told, en], (y == ("__debug__" : Str)) = false ∧ (y == ("__classdict__" : Str)) = false := fun y hy => by
    have := List.all_eq_true.mp hall y hy
    rw [Bool.and_eq_true, Bool.not_eq_true', Bool.not_eq_true'] at this
    exact this
  have da := hall ask (by simp)
  have dt := hall told (by simp)
  have de := hall en (by simp)
  refine ⟨_, pe_lamD (t := fun E => tSem g (kE E) fb) hg hm hk lk hcg hb Sg rfl (.inl la) (ref_gives Sg.nd lt le dt.1 dt.2 de.1 de.2 hR) TB hcode hmT hu hr L hdef hbind (fun A outer s H E f c' hr => (hbody A outer s H E f c' hr).pe) hdb da.1 da.2, fun σ H Q F S w R h => ?_⟩
  refine ⟨R.bx.tabs, fun H1 eL q nq => ?_⟩
  have x1 := Ext.lamL R.sub R.bx eL
  have x2 := Ext.lay (o := .tup [.str "", .non]) x1.sub x1.bx nq
  have x12 := x1.trans x2
  refine ⟨F.upd q (.tup [.str "", .non]), S, w, R.ext x12, ?_⟩
  unfold eRef at h
  cases hf : fb S w with
  | bad => rw [hf] at h; exact h
  | ok d w1 =>
    rw [hf] at h
    intro v H' F' x3 r
    refine ⟨.ref q, rfl, h (.ref q) H' F' (x12.trans x3) (.tup (.inl (.inl (x3.ff.fz _ _ upd_same))) (.cons (.str "") (.cons .non .nil)))⟩
  | err c fs w1 =>
    rw [hf] at h
    intro cl' a vs H' F' x3 n kc l r
    unfold refD at h
    simp only at h
    cases ht : tbl.lookup c with
    | none => rw [ht] at h; exact h.elim
    | some Fn =>
      rw [ht] at h
      simp only at h
      cases h1 : fs.lookup ("tag" : Str) with
      | none => rw [h1] at h; exact h.elim
      | some t =>
        cases h2 : refF fs Fn with
        | none => rw [h1, h2] at h; exact h.elim
        | some z =>
          rw [h1, h2] at h
          obtain ⟨C, e1, e2, e3⟩ := hcl c Fn ht
          rw [kc] at e1; cases e1
          obtain ⟨tv, t1, t2⟩ := r.lookup h1
          have hz : ∃ fv, fldV vs Fn fv ∧ DR g F' fv z := by
            unfold refF at h2
            unfold fldV
            split at h2
            · rename_i hF
              cases h2
              exact ⟨.non, by rw [if_pos hF], .non⟩
            · rename_i hF
              obtain ⟨fv, z1, z2⟩ := r.lookup h2
              exact ⟨fv, by rw [if_neg hF]; exact z1, z2⟩
          obtain ⟨fv, z1, z2⟩ := hz
          refine ⟨Fn, e3, cl', rfl, e2, a, vs, tv, fv, rfl, l, t1, z1, fun p2' np => ?_⟩
          have x4 := Ext.lay (o := .tup [tv, fv]) x3.sub x3.bx np
          exact h (.ref p2') _ _ ((x12.trans x3).trans x4) (.tup (.inl (.inl upd_same)) (.cons (t2.mono x4.ff) (.cons (z2.mono x4.ff) .nil)))
end
end Y
namespace Y
open PySem PySem.Spec PyProof.Rows L2
/-! ### the end of a law whose defs make lambdas -/
theorem walk_tabs {l : PySem.W.OpenLaw} {n k : Nat} {q : Program} {loose : List Str} {XP : (Str → Option Value) → Heap → Prop} {YP : World → Heap → Prop} {d : DefRec} {K : Params → PySem.W.Frag} {CX : World → CXT} {x : Str} (hn : l.most = some n) (hn2 : n ≤ sizeLine) (hdf : d.params.defaults = []) (hr : Room k callerA) (hY : ∀ (w : World) (h : Heap), YP w h → (K w.params).In h)
    (F : ∀ (w : World) (mg : Str → Option Value) (fa : Addr) (h : Heap), YP w h → (K w.params).In h → h.Ns mainGlobals mg → mg d.name = some (.ref fa) →
      (∀ (y : Str) (dr : DefRec) (c P : Addr), (recsOf q).find? (fun e => e.name == y) = some dr → PySem.W.tabIn (K w.params) y = some (c, P) → PySem.W.CodeHd h c P ∧ h.get? P = some { cls := .none, data := .fields #[] }) → LamX.LawAtS l w (K w.params) (CX w) k n x mg fa h)
    (hCX : ∀ (w : World) (H : Hp) (s : Shared) (e : Value) (s' : Shared), CX w [] H s (fun _ _ _ => False) e s' → False) : PySem.W.WalkO q loose XP YP l.row.toRowW d [] (fun f vs => PySem.call f vs) := by
  refine Att.attach_callB hn hdf fun w t0 t1 mg mb fa ob p1 p2 p3 a vs ns GG YY h1 h2 h3 hmg hobj hints hlen hbits hg => ?_
  have KX := hY w _ YY
  obtain ⟨fd, cs, sp, c1, c2, c3, hb, hsp, hF⟩ := F w mg fa _ YY KX GG.T.g hmg fun y dr c P e1 e2 => PySem.W.tab_of GG.T KX e1 e2
  exact LamX.law_callTs KX GG.T.g GG.T.b GG.T.builtins GG.T.nolimit hg c1 c2 c3 GG.T.bmain hobj hints (Nat.le_trans hlen hn2) hr hF hb (fun H hH hS => hsp H a ns hlen hbits hH hS) fun H e s' => hCX w H t1 e s'
/-- the table of a def that makes lambdas -/
def LamT (K : PySem.W.Frag) (mg : Str → Option Value) (base : Heap) (tb : List (Addr × Str)) (x ql : Str) : Prop := ∃ f c P, mg x = some (.ref f) ∧ (∀ cdv, CodeIs K f cdv → cdv = .ref c) ∧ LamX.TabB base mg c P ∧ (P, ql) ∈ tb ∧ ∀ q ∈ tb, q.1 = P → q.2 = ql
theorem exm_by {K : PySem.W.Frag} {cls : Value} {S : Addr} {b : Bool} (h1 : PySem.W.subIn K (.ref S) (.type "BaseException") = some true) (h2 : PySem.W.isClsIn K S = true) (h3 : PySem.W.typeIn K (.ref S) = some (.type "type")) (h4 : PySem.W.subIn K cls (.ref S) = some b) : PySem.W.exmOne K cls (.ref S) = some b := by
  have e1 : (PySem.W.subIn K (.ref S) (.type "BaseException") == some true) = true := by rw [h1] <;> rfl
  have e2 : ((PySem.W.clsIn K S).isSome && PySem.W.typeIn K (.ref S) == some (.type "type")) = true := by
    have h5 : (PySem.W.clsIn K S).isSome = true := h2
    rw [h5, h3] <;> rfl
  show (if (PySem.W.subIn K (.ref S) (.type "BaseException") == some true) = true then (if ((PySem.W.clsIn K S).isSome && PySem.W.typeIn K (.ref S) == some (.type "type")) = true then PySem.W.subIn K cls (.ref S) else none) else none) = some b
  rw [if_pos e1, if_pos e2, h4]
theorem exm_nil {K : PySem.W.Frag} {cls : Value} : PySem.W.exmAny K cls [] = some false := rfl
theorem exm_more {K : PySem.W.Frag} {cls c : Value} {r : List Value} {b d : Bool} (h : PySem.W.exmOne K cls c = some b) (h2 : PySem.W.exmAny K cls r = some d) : PySem.W.exmAny K cls (c :: r) = some (b || d) := by
  unfold PySem.W.exmAny; rw [h, h2]
end Y
namespace Y
open PySem PySem.Spec PyProof.Rows L2
/-! ### tables of code objects, from the head's facts -/
theorem tab_code {K : PySem.W.Frag} {x : Str} {f c P : Addr} (h1 : PySem.W.nsIn K mainGlobals x = some (some (.ref f))) (h2 : PySem.W.tabIn K x = some (c, P)) : ∀ cdv, CodeIs K f cdv → cdv = .ref c := by
  rintro cdv ⟨oc, od, fd, osl, lk, rfl⟩
  unfold PySem.W.tabIn at h2
  rw [h1] at h2
  simp only [lk] at h2
  split at h2
  · rename_i c' e
    split at h2
    · split at h2
      · cases h2; exact e
      · cases h2
    · cases h2
  · cases h2
theorem lamT_mk {K : PySem.W.Frag} {mg : Str → Option Value} {base : Heap} {tb : List (Addr × Str)} {x ql : Str} {f c P : Addr} (hm : mg x = some (.ref f)) (h1 : PySem.W.nsIn K mainGlobals x = some (some (.ref f))) (h2 : PySem.W.tabIn K x = some (c, P)) (TB : LamX.TabB base mg c P) (hmem : (P, ql) ∈ tb) (hu : ∀ q ∈ tb, q.1 = P → q.2 = ql) : LamT K mg base tb x ql :=
  ⟨f, c, P, hm, tab_code h1 h2, TB, hmem, hu⟩
theorem tabs_start {tb : List (Addr × Str)} {H : Hp} (h : ∀ p ∈ tb, H p.1 = some (.tbl #[])) : LamX.Tabs tb H := fun p hp => ⟨#[], h p hp, trivial, fun pos cv hc => by cases hc⟩
end Y
namespace Y
theorem tbl_nil {Q : PySem.Str → PySem.Str → Prop} : ∀ c F, ([] : List (PySem.Str × PySem.Str)).lookup c = some F → Q c F := fun _ _ h => nomatch h
theorem tbl_cons {Q : PySem.Str → PySem.Str → Prop} {c0 F0 : PySem.Str} {r : List (PySem.Str × PySem.Str)} (h : Q c0 F0) (hr : ∀ c F, r.lookup c = some F → Q c F) : ∀ c F, ((c0, F0) :: r).lookup c = some F → Q c F := fun c F e => by
  rw [List.lookup_cons] at e
  split at e
  · rename_i q; cases e; rw [eq_of_beq q]; exact h
  · exact hr c F e
theorem all1 {α : Type} {Q : α → Prop} {a : α} (h : Q a) : ∀ p ∈ [a], Q p := fun p hp => by rcases List.mem_cons.mp hp with rfl | z; exact h; cases z
theorem all2 {α : Type} {Q : α → Prop} {a b : α} (h : Q a) (h2 : Q b) : ∀ p ∈ [a, b], Q p := fun p hp => by rcases List.mem_cons.mp hp with rfl | z; exact h; exact all1 h2 p z
theorem all3 {α : Type} {Q : α → Prop} {a b c : α} (h : Q a) (h2 : Q b) (h3 : Q c) : ∀ p ∈ [a, b, c], Q p := fun p hp => by rcases List.mem_cons.mp hp with rfl | z; exact h; exact all2 h2 h3 p z
end Y
namespace Y
open PySem PySem.Spec PyProof.Rows L2
theorem kit_by {K : PySem.W.Frag} {t : Value} {C : Addr} {b : Bool} (h1 : PySem.W.isClsIn K C = true) (h2 : PySem.W.typeIn K (.ref C) = some (.type "type")) (h3 : PySem.W.subIn K t (.ref C) = some b) (hn : (t == .ref C) = false) : PySem.W.kitOne K t (.ref C) = some b := by
  have h4 : (PySem.W.clsIn K C).isSome = true := h1
  unfold PySem.W.kitOne PySem.W.kitCls
  rw [hn]
  simp only [h4, h2, h3]
  rfl
theorem tab_by {K : PySem.W.Frag} {x : Str} {f c P : Addr} {oc oc2 : Value} {od od2 : Option Addr} {fd : FuncData} {sl sl2 : Array (Option Value)} {vs : Array Value} (h1 : PySem.W.nsIn K mainGlobals x = some (some (.ref f))) (h2 : K.lookup f = some ⟨oc, od, .func fd, sl⟩) (h3 : fd.code = .ref c) (h4 : K.lookup c = some ⟨oc2, od2, .fields vs, sl2⟩) (h5 : vs[11]? = some (.ref P)) : PySem.W.tabIn K x = some (c, P) := by
  unfold PySem.W.tabIn
  rw [h1]
  simp only [h2, h3, h4, h5]
end Y
namespace Y
open PySem PySem.Spec PyProof.Rows L2
/-! ### isinstance of any value, and == of an object with a value of a built-in type -/
def six : List String := ["NoneType", "bool", "int", "str", "list", "tuple"]
structure IsGK (K : PySem.W.Frag) (mg : Str → Option Value) (cls : CT) (c : Str) (tb : List (Str × Bool)) : Prop where
  ex : ∃ C : Addr, mg c = some (.ref C) ∧ (∀ c' b, tb.lookup c' = some b → ∃ C', cls c' = some C' ∧ C8.InsC K C' ∧ PySem.W.kitOne K (.ref C') (.ref C) = some b) ∧ ∀ a ∈ six, PySem.W.kitOne K (.type a) (.ref C) = some false
def mIsG (tb : List (Str × Bool)) : D → Option D
  | .obj c _ => (tb.lookup c).map .bl
  | d => (tyN d).map fun _ => .bl false
section
variable {X : Cx} {g : G} {E : EK} {e a b : Expr} {pos p : Pos} {f fa fb : EM} {c : Str} {k : Nat} {mm : List D → Bx → R D} {tb : List (Str × Bool)}
theorem de_isG {p3 : Pos} (hK : g.K = X.K) (M : IsGK X.K X.mg g.cls c tb) (hm : X.mg "isinstance" = none) (ha : DE X g E e f) (hgN : Gl X c := by rfl) (hg : Gl X "isinstance" := by rfl) (hdN : (c == ("__debug__" : Str)) = false := by decide)
    (he : starEach [e, .Name c p3] X.env = (false, eval e X.env) :: starEach [.Name c p3] X.env := by rfl) (he2 : starEach [.Name c p3] X.env = (false, eval (.Name c p3) X.env) :: starEach [] X.env := by rfl) (hpl : (backTo pos (starEach [.Name c p3] X.env)).any (·.1) = false := by rfl) :
    DE X g E (.Call (.Name "isinstance" p) [e, .Name c p3] [] pos) (e1 (mIsG tb) f) := by
  obtain ⟨C, h1, h2, h3⟩ := M.ex
  obtain ⟨ta, pa, ra⟩ := ha.run
  refine ⟨_, pe_callB call_isi hg hm (by decide +kernel) (pa_cons pa (pa_cons (pe_glob hgN h1 (v := .ref C) rfl hdN) pa_nil he2) he) (by decide) (by decide) he hpl, fun σ H Q F S w R h => ?_⟩
  refine ra σ H _ F S w R (PostG.imp (PostG.bind h) fun d w1 _ h1 v H1 F1 x1 r1 => ?_)
  obtain ⟨z, hz, q⟩ := post_ofO h1
  by_cases hd : ∃ c' fs, d = .obj c' fs
  · obtain ⟨c', fs, rfl⟩ := hd
    obtain ⟨b, e1, rfl⟩ := Option.map_eq_some_iff.mp hz
    obtain ⟨C', k1, k2, k3⟩ := h2 c' b e1
    cases r1 with
    | @obj a1 C1 dx _ fs' _ q1 q2 q3 q4 =>
      rw [k1] at q3; cases q3
      exact ⟨.ref a1, .ref C, .ref C', .ref C, _, rfl, .own C, .base (.ins (x1.sub _ _ q1) k2.cl k2.ha k2.hn k2.htk k2.hm), k3, q _ H1 F1 x1 (.bl _)⟩
  · have hz' : (tyN d).map (fun _ => D.bl false) = some z := by
      cases d <;> first | exact hz | exact absurd ⟨_, _, rfl⟩ hd
    obtain ⟨a, e1, e2⟩ := Option.map_eq_some_iff.mp hz'
    subst e2
    rw [← hK]
    exact ⟨v, .ref C, .type a, .ref C, _, rfl, .own C, ty_of x1.sub r1 e1, by rw [hK]; exact h3 a (tyN_mem e1), q _ H1 F1 x1 (.bl _)⟩
/-! == with a value of a built-in type -/
def rOwnB (K : PySem.W.Frag) (C : Addr) (sp : Sp) (E : XK) : R2 := fun x y H Q => ∃ a dx fs t, x = .ref a ∧ H a = some (.ins C dx fs) ∧ TyX K H y (.type t) ∧ PySem.W.subIn K (.type t) (.ref C) = some false ∧ sp [x, y] H Q E
theorem op_ownEqB {E : XK} {C f : Addr} {sp : Sp} (F : FnR X.prog X.w X.K X.mg X.base (L2.CX X.prog X.w) k f sp) (hr : Room k X.A) (hx : Passes (L2.CX X.prog X.w) X E) (hs : PySem.W.findIn X.K (.ref C) "__eq__" = some (some (.ref f))) (hf : PySem.W.isFn X.K (.ref f) = true) :
    OpR X (compareOp .Eq) (rOwnB X.K C sp E) := by
  intro pins s σ H x y u v Q I rx ry h
  obtain ⟨a, dx, fs, t, rfl, ha, ht, hn, q⟩ := h
  cases rx
  obtain ⟨mA, J, _⟩ := ins_get I.hok ha
  obtain ⟨od, J, _⟩ := J.look
  obtain ⟨m, hF⟩ := I.fr
  obtain ⟨P, Z, p, hx'⟩ := kit_of I ry ht
  show wpAny (model X.prog X.w) X.A (richCompare .Eq (.ref a) v) (EP X pins σ Q) X.xe s
  refine PySem.W.cmp_K (op := .Eq) (tb := .type t) hr.units0 hF I.ok.mod.kin J (Z.ty _ _ I.kIn p) (by unfold PySem.W.notFirst; rw [hn]; simp) hs hf ?_
  refine wpAny_mono (wpAny_call (run_fnR (vs := [V.ref a, y]) F hr hx I (.cons rfl (.cons ry .nil)) q)) (fun r s' hq => ?_) fun _ _ z => z
  obtain ⟨z, H', I', rz, qz⟩ := hq
  have key : EP X pins σ Q r s' := ⟨z, H', I', rz, qz⟩
  cases r with
  | notImplemented => cases z <;> first | (obtain ⟨t, e⟩ := rz; cases e) | cases rz
  | _ => exact key
def isTy (d : D) : Bool := (tyN d).isSome
def eOwnB (c : Str) (mm : List D → Bx → R D) (fa fb : EM) : EM := fun S w => (fa S w).bind fun d w1 => (fb S w1).bind fun e w2 => if isCls c d && isTy e then mm [d, e] w2 else .bad
/-- no value of a built-in type is one of the class -/
structure NoK (K : PySem.W.Frag) (cls : CT) (c : Str) : Prop where
  ex : ∃ C, cls c = some C ∧ ∀ a ∈ six, PySem.W.subIn K (.type a) (.ref C) = some false
theorem de_ownEqB {E : XK} (hK : g.K = X.K) (M : OpK X.prog X.w X.K X.mg X.base g.cls c "__eq__" k mm) (M2 : NoK X.K g.cls c) (hr : Room k X.A) (hx : Passes (L2.CX X.prog X.w) X E) (ha : DE X g (kE E) a fa) (hb : DE X g (kE E) b fb) (hk : behindInMarks .Eq b = false := by first | exact nomark _ | rfl) : DE X g (kE E) (.Compare a [.Eq] [b] pos) (eOwnB c mm fa fb) := by
  obtain ⟨C, f, fd, ps, hc, sf, fi, hf, F, bi⟩ := M.ex
  obtain ⟨C2, k1, k2⟩ := M2.ex
  rw [hc] at k1; cases k1
  obtain ⟨ta, pa, ra⟩ := ha.run
  obtain ⟨tb, pb, rb⟩ := hb.run
  refine ⟨_, pe_cmpR (op_ownEqB (raw_spM (g := g) F bi) hr hx fi hf) pa pb hk, fun σ H Q F S w R h => ?_⟩
  refine ra σ H _ F S w R (PostG.imp (PostG.bind h) fun d w1 hd h1 v H1 F1 x1 r1 => ?_)
  refine rb σ H1 _ F1 S w1 (R.ext x1) (PostG.ext x1 (PostG.bind h1) fun e w2 h2 u H2 F2 x2 r2 => ?_)
  have x12 := x1.trans x2
  by_cases hd : (isCls c d && isTy e) = true
  · rw [if_pos hd] at h2
    rw [Bool.and_eq_true] at hd
    have r1' := r1.mono x2.ff
    obtain ⟨q, C', dx, vs, ev, hc', hq⟩ := r1'.isCls hd.1
    obtain rfl : C' = C := Option.some.inj (hc'.symm.trans hc)
    obtain ⟨t, ht⟩ := Option.isSome_iff_exists.mp hd.2
    have hty : TyX X.K H2 u (.type t) := by rw [← hK]; exact ty_of x2.sub r2 ht
    refine ⟨q, dx, vs, t, ev, x2.sub _ _ hq, hty, k2 t (tyN_mem ht), ?_⟩
    rw [← hK]
    exact ⟨rfl, g.bq, F2, [d, e], w2, x2.sub, x2.bx, .cons r1' (.cons r2 .nil), Post.of x12 h2⟩
  · rw [if_neg hd] at h2; exact h2.elim
end
def IsGF (K : PySem.W.Frag) (mg : Str → Option Value) (c : Str) (tb : List (Str × Bool)) : Prop := ∀ t, IsGK K mg (clsOf mg t) c tb
theorem all6 {Q : String → Prop} (a1 : Q "NoneType") (a2 : Q "bool") (a3 : Q "int") (a4 : Q "str") (a5 : Q "list") (a6 : Q "tuple") : ∀ a ∈ six, Q a := by
  intro a h
  unfold six at h
  simp at h
  rcases h with rfl | rfl | rfl | rfl | rfl | rfl
  · exact a1
  · exact a2
  · exact a3
  · exact a4
  · exact a5
  · exact a6
theorem tbB_nil {Q : Str → Bool → Prop} : ∀ c F, ([] : List (Str × Bool)).lookup c = some F → Q c F := fun _ _ h => nomatch h
theorem tbB_cons {Q : Str → Bool → Prop} {c0 : Str} {F0 : Bool} {r : List (Str × Bool)} (h : Q c0 F0) (hr : ∀ c F, r.lookup c = some F → Q c F) : ∀ c F, ((c0, F0) :: r).lookup c = some F → Q c F := fun c F e => by
  rw [List.lookup_cons] at e
  split at e
  · rename_i q; cases e; rw [eq_of_beq q]; exact h
  · exact hr c F e
end Y
namespace Y
open PySem PySem.Spec PyProof.Rows L2
/-! ### a list comprehension of two clauses -/
/-- the slots that hold data alone -/
def datS (S : SL) : SL := S.map fun o => match o with
  | some (.dat d) => some (.dat d)
  | _ => none
def lc2Loop (gm : GM) (tm : TM) (fi1 : AM) (gm1 : GM) (tm1 : TM) (em : EM) (S0 : SL) (vs1 : List Nat) : List D → Bx → R (List D)
  | [], w => .ok [] w
  | d :: ds, w => match gm d S0 with
    | none => .bad
    | some S1 => (tm S1 w).nx.bind fun b w1 => if b then (fi1 S1 w1).nx.bind fun es w2 => if es.length ≤ 4000 then (lcLoop gm1 tm1 em (wipeS (datS S1) vs1) es w2).bind fun ys w3 => (lc2Loop gm tm fi1 gm1 tm1 em S0 vs1 ds w3).bind fun zs w4 => .ok (ys ++ zs) w4 else .bad
      else lc2Loop gm tm fi1 gm1 tm1 em S0 vs1 ds w1
def oLc2 (fi : AM) (gm : GM) (tm : TM) (fi1 : AM) (gm1 : GM) (tm1 : TM) (em : EM) (vs vs1 : List Nat) : AM := fun S w => (fi S w).bind fun ds w1 => if ds.length ≤ 4000 then lc2Loop gm tm fi1 gm1 tm1 em (wipeS S vs) vs1 ds w1 else .bad
def tSemI (g : G) (E : EK) (f : AM) : TI := fun σ H Rq => ∃ F S w, Rel g F w S σ H ∧ PostG g F H (E σ) (fun ds w' => ∀ J H' F', Ext g F H F' H' w' → Yld g F' J ds → Rq J H') (f S w)
section
variable {X : Cx} {g : G} {E : EK} {pos : Pos}
theorem DI.pi {tg iter : Expr} {f : AM} (h : DI X g E tg iter f) : PI X tg iter (tSemI g E f) := by
  obtain ⟨wi, p, r⟩ := h.run
  exact ⟨fun pins s σ H Rq I ⟨F, S, w, R, q⟩ => p.run pins s σ H Rq I (r σ H Rq F S w R q)⟩
theorem datS_get {S : SL} {i : Nat} {s : SV} (h : (datS S)[i]? = some (some s)) : ∃ d, s = .dat d ∧ S[i]? = some (some (.dat d)) := by
  unfold datS at h
  rw [List.getElem?_map] at h
  obtain ⟨o, e1, e2⟩ := Option.map_eq_some_iff.mp h
  split at e2
  · cases e2; exact ⟨_, rfl, e1⟩
  · cases e2
theorem Rel.dats {F F' : FH} {H H' : Hp} {w w' : Bx} {S : SL} {σ : L2.St} (R : Rel g F w S σ H) (e : FSame F F') (s : Same F' H') (b : BxOk g F' w' H') : Rel g F' w' (datS S) σ H' := by
  refine ⟨s, b, by unfold datS; rw [List.length_map]; exact R.len, fun i x hx => ?_, fun i j ds ds2 v h1 => ?_⟩
  · obtain ⟨d, rfl, h⟩ := datS_get hx
    obtain ⟨v, h1, h2⟩ := R.sl i _ h
    exact ⟨v, h1, DR.mono e h2⟩
  · obtain ⟨d, h, _⟩ := datS_get h1
    cases h
theorem bind_app {α β γ : Type} (r : R α) (k : α → Bx → R β) (l : β → Bx → R γ) : (r.bind k).bind l = r.bind fun a w => (k a w).bind l := by cases r <;> rfl
theorem yld_item {F1 F2 : FH} {H2 H3 : Hp} {w2 : Bx} {J : It} {ds : List D} {i : Nat} {d : D} {x : V} (yl : Yld g F1 J ds) (ff : FSame F1 F2) (sb : Same F2 H2) (b : BxOk g F2 w2 H2) (hd : ds[i]? = some d) (hx : J.yld i H2 x H3) : ∃ F3, Ext g F2 H2 F3 H3 w2 ∧ DR g F3 x d := by
  obtain ⟨hgo, hyl⟩ := yl.go i d F2 H2 ff sb hd
  rcases hyl x H3 hx with ⟨e1, r1⟩ | ⟨T, xs, es, e1, nT, e2, r1, e3⟩
  · subst e1; exact ⟨F2, Ext.refl sb b, r1⟩
  · subst e1 e2 e3
    exact ⟨_, Ext.lay sb b nT, .tup (.inl (.inl upd_same)) (r1.mono (Ext.lay sb b nT).ff)⟩
theorem wipe_eq {σ σ2 : L2.St} {ns vs : List Nat} (hn : ∀ i ∈ ns, i ∈ vs) (wp : ∀ us, (∀ i ∈ ns, i ∈ us) → L2.wipe σ2 us = L2.wipe (L2.wipe σ vs) us) : L2.wipe σ2 vs = L2.wipe σ vs := by
  rw [wp vs hn]
  apply List.ext_getElem?
  intro j
  simp only [wipe_get, wipe_length]
  by_cases hj : j ∈ vs
  · simp only [if_pos hj]
  · simp only [if_neg hj]
theorem lc2_run {wi : TI} {fi fi1 : AM} {gm gm1 : GM} {tm tm1 : TM} {em : EM} {ns vs ns1 vs1 : List Nat} (hn : ∀ i ∈ ns, i ∈ vs) (hn1 : ∀ i ∈ ns1, i ∈ vs1)
    (ri : ∀ σ H (Rq : It → Hp → Prop) F S w, Rel g F w S σ H → PostG g F H (E σ) (fun ds w' => ∀ J H' F', Ext g F H F' H' w' → Yld g F' J ds → Rq J H') (fi S w) → wi σ H Rq) :
    ∀ σ H Q F S w, Rel g F w S σ H → PostO g F H Q (E σ) (oLc2 fi gm tm fi1 gm1 tm1 em vs vs1 S w) → tLc2 wi (tSemG g ns gm) (tSemT g (kE E0) tm) (tSemI g (kE E0) fi1) (tSemG g ns1 gm1) (tSemT g (kE E0) tm1) (tSem g (kE E0) em) vs vs1 σ H Q := by
  intro σ H Q F S w R h
  refine ri σ H _ F S w R (PostG.imp (PostG.bind h) fun ds w1 _ h1 J H1 F1 x1 yl D nD => ?_)
  by_cases hl : ds.length ≤ 4000
  · rw [if_pos hl] at h1
    have nDb : D ≠ g.bx := not_box x1.bx nD
    let PQ : List Y.D → Y.R (List Y.D) → Prop := fun ys r => PostG g F H (E σ) (fun zs w' => ∀ p vs H' F', Ext g F H F' H' w' → H p = none → F'.free p → H' p = some (.lst vs) → DRs g F' vs (ys ++ zs) → Q (.ref p) H') r
    refine ⟨fun i m H2 => ∃ F2 w2 acc ys, Ext g F1 H1 F2 H2 w2 ∧ F2.free D ∧ H2 D = some (.lst acc) ∧ DRs g F2 acc ys ∧ ys.length ≤ i * 4000 ∧ i + m = ds.length ∧ PQ ys (lc2Loop gm tm fi1 gm1 tm1 em (wipeS S vs) vs1 (ds.drop i) w2),
      ⟨ds.length, F1, w1, [], [], Ext.own x1.sub x1.bx nD, free_of x1.sub x1.bx nD, upd_same, .nil, Nat.zero_le _, by omega, h1⟩, fun i m H2 hW => ?_⟩
    obtain ⟨F2, w2, acc, ys, x2, nF2, hD, rys, hy, him, hp⟩ := hW
    cases hd : ds[i]? with
    | none =>
      have hle : ds.length ≤ i := List.getElem?_eq_none_iff.mp hd
      have hie : i = ds.length := by omega
      refine .inl ⟨hie ▸ yl.stop F2 H2 x2.ff x2.sub, ?_⟩
      rw [List.drop_eq_nil_of_le hle] at hp
      have hp : ∀ p vs H' F', Ext g F H F' H' w2 → H p = none → F'.free p → H' p = some (.lst vs) → DRs g F' vs (ys ++ []) → Q (.ref p) H' := hp
      rw [List.append_nil] at hp
      exact hp D acc H2 F2 (x1.trans x2) (x1.fresh nD) nF2 hD rys
    | some d =>
      obtain ⟨hlt, hde⟩ := List.getElem?_eq_some_iff.mp hd
      obtain ⟨hgo, hyl⟩ := yl.go i d F2 H2 x2.ff x2.sub hd
      rw [List.drop_eq_getElem_cons hlt, hde] at hp
      refine .inr ⟨hgo, fun H3 => ∃ F2 w2 acc ys, Ext g F1 H1 F2 H3 w2 ∧ F2.free D ∧ H3 D = some (.lst acc) ∧ DRs g F2 acc ys ∧ ys.length ≤ (i + 1) * 4000 ∧ PQ ys (lc2Loop gm tm fi1 gm1 tm1 em (wipeS S vs) vs1 (ds.drop (i + 1)) w2), fun H' hN => ?_, fun x H3 hx => ?_⟩
      · obtain ⟨F', w', acc', ys', b1, b2, b3, b4, b5, b6⟩ := hN
        exact ⟨m - 1, by omega, F', w', acc', ys', b1, b2, b3, b4, b5, by omega, b6⟩
      · obtain ⟨F3, x3, rx⟩ := yld_item yl x2.ff x2.sub x2.bx hd hx
        have x13 : Ext g F H F3 H3 w2 := x1.trans (x2.trans x3)
        cases hg : gm d (wipeS S vs) with
        | none => unfold lc2Loop at hp; rw [hg] at hp; exact hp.elim
        | some S1 =>
          unfold lc2Loop at hp
          rw [hg] at hp
          refine ⟨F3, wipeS S vs, w2, d, S1, (R.ext x13).wipe vs, rx, hg, fun σ2 R2 wp => ⟨wipe_eq hn wp, ?_⟩⟩
          refine ⟨F3, S1, w2, R2, nx_post (PostG.ext x13 (PostG.bind hp) fun b w3 h3 => h3) fun b w3 h3 H4 F4 x4 => ?_⟩
          have x14 := x13.trans x4
          have nF4 : F4.free D := (x3.trans x4).free nF2 hD
          have hD4 : H4 D = some (.lst acc) := (x3.trans x4).hh D _ nDb nF2.2 (fun _ z => by cases z) hD
          cases b with
          | false =>
            refine iteF ?_
            exact ⟨F4, w3, acc, ys, x2.trans (x3.trans x4), nF4, hD4, rys.mono (x3.ff.trans x4.ff), by omega, h3⟩
          | true =>
            refine iteT ?_
            refine ⟨F4, S1, w3, R2.ext x4, nx_post (PostG.ext x14 (PostG.bind h3) fun es w4 h4 => h4) fun es w4 h4 J1 H5 F5 x5 yl1 => ?_⟩
            have x15 := x14.trans x5
            have nF5 : F5.free D := x5.free nF4 hD4
            have hD5 : H5 D = some (.lst acc) := x5.hh D _ nDb nF4.2 (fun _ z => by cases z) hD4
            by_cases hl1 : es.length ≤ 4000
            · rw [if_pos hl1] at h4
              have x25 := x2.trans (x3.trans (x4.trans x5))
              let rest : Bx → Y.R (List Y.D) := fun w => lc2Loop gm tm fi1 gm1 tm1 em (wipeS S vs) vs1 (ds.drop (i + 1)) w
              refine ⟨fun j k H6 => ∃ F6 w6 acc ys, Ext g F1 H1 F6 H6 w6 ∧ FSame F5 F6 ∧ F6.free D ∧ H6 D = some (.lst acc) ∧ DRs g F6 acc ys ∧ ys.length ≤ i * 4000 + j ∧ j + k = es.length ∧ PQ ys ((lcLoop gm1 tm1 em (wipeS (datS S1) vs1) (es.drop j) w6).bind fun ys' w7 => (rest w7).bind fun zs w8 => .ok (ys' ++ zs) w8),
                ⟨es.length, F5, w4, acc, ys, x25, FSame.refl F5, nF5, hD5, rys.mono (x3.ff.trans (x4.ff.trans x5.ff)), by omega, by omega, h4⟩, fun j k H6 hW => ?_⟩
              obtain ⟨F6, w6, acc, ys, x6, f6, nF6, hD6, rys, hy, hjk, hp⟩ := hW
              cases hd1 : es[j]? with
              | none =>
                have hle : es.length ≤ j := List.getElem?_eq_none_iff.mp hd1
                have hje : j = es.length := by omega
                refine .inl ⟨hje ▸ yl1.stop F6 H6 f6 x6.sub, F6, w6, acc, ys, x6, nF6, hD6, rys, by omega, ?_⟩
                rw [List.drop_eq_nil_of_le hle] at hp
                have hp : PQ ys ((rest w6).bind fun zs w8 => .ok ([] ++ zs) w8) := hp
                refine PostG.imp (PostG.bind hp) fun zs w9 _ h9 => ?_
                exact h9
              | some d1 =>
                obtain ⟨hlt1, hde1⟩ := List.getElem?_eq_some_iff.mp hd1
                obtain ⟨hgo1, hyl1⟩ := yl1.go j d1 F6 H6 f6 x6.sub hd1
                rw [List.drop_eq_getElem_cons hlt1, hde1] at hp
                refine .inr ⟨hgo1, fun H7 => ∃ F6 w6 acc ys, Ext g F1 H1 F6 H7 w6 ∧ FSame F5 F6 ∧ F6.free D ∧ H7 D = some (.lst acc) ∧ DRs g F6 acc ys ∧ ys.length ≤ i * 4000 + (j + 1) ∧ PQ ys ((lcLoop gm1 tm1 em (wipeS (datS S1) vs1) (es.drop (j + 1)) w6).bind fun ys' w7 => (rest w7).bind fun zs w8 => .ok (ys' ++ zs) w8), fun H' hN => ?_, fun x H7 hx => ?_⟩
                · obtain ⟨F', w', acc', ys', b1, b1', b2, b3, b4, b5, b6⟩ := hN
                  exact ⟨k - 1, by omega, F', w', acc', ys', b1, b1', b2, b3, b4, b5, by omega, b6⟩
                · obtain ⟨F7, x7, rx1⟩ := yld_item yl1 f6 x6.sub x6.bx hd1 hx
                  have x17 : Ext g F H F7 H7 w6 := x1.trans (x6.trans x7)
                  cases hg1 : gm1 d1 (wipeS (datS S1) vs1) with
                  | none => unfold lcLoop at hp; rw [hg1] at hp; exact hp.elim
                  | some S2 =>
                    unfold lcLoop at hp
                    rw [hg1] at hp
                    refine ⟨F7, wipeS (datS S1) vs1, w6, d1, S2, (R2.dats (x4.ff.trans (x5.ff.trans (f6.trans x7.ff))) x7.sub x7.bx).wipe vs1, rx1, hg1, fun σ3 R3 wp1 => ⟨wipe_eq hn1 wp1, ?_⟩⟩
                    simp only [bind_app] at hp
                    refine ⟨F7, S2, w6, R3, nx_post (PostG.ext x17 (PostG.bind hp) fun b w9 h9 => h9) fun b w9 h9 H8 F8 x8 => ?_⟩
                    have x18 := x17.trans x8
                    have nF8 : F8.free D := (x7.trans x8).free nF6 hD6
                    have hD8 : H8 D = some (.lst acc) := (x7.trans x8).hh D _ nDb nF6.2 (fun _ z => by cases z) hD6
                    cases b with
                    | false =>
                      refine iteF ?_
                      exact ⟨F8, w9, acc, ys, x6.trans (x7.trans x8), f6.trans (x7.ff.trans x8.ff), nF8, hD8, rys.mono (x7.ff.trans x8.ff), by omega, h9⟩
                    | true =>
                      refine iteT ?_
                      simp only [if_true, bind_app] at h9
                      refine ⟨F8, S2, w9, R3.ext x8, nx_post (PostG.ext x18 (PostG.bind h9) fun y w10 h10 => h10) fun y w10 h10 v H9 F9 x9 ry => ?_⟩
                      have nF9 : F9.free D := x9.free nF8 hD8
                      have hD9 : H9 D = some (.lst acc) := x9.hh D _ nDb nF8.2 (fun _ z => by cases z) hD8
                      have hal : acc.length = ys.length := rys.length
                      refine ⟨acc, hD9, ?_, F9, w10, acc ++ [v], ys ++ [y], Ext.mut (x6.trans (x7.trans (x8.trans x9))) nD nF9 nDb hD9 (.inl ⟨_, rfl⟩), f6.trans (x7.ff.trans (x8.ff.trans x9.ff)), nF9, upd_same, (rys.mono (x7.ff.trans (x8.ff.trans x9.ff))).append (.cons ry .nil), by rw [List.length_append, List.length_singleton]; omega, ?_⟩
                      · show acc.length < 16777216
                        have : i * 4000 ≤ 3999 * 4000 := Nat.mul_le_mul_right _ (by omega)
                        omega
                      · show PQ (ys ++ [y]) ((lcLoop gm1 tm1 em (wipeS (datS S1) vs1) (es.drop (j + 1)) w10).bind fun ys' w7 => (rest w7).bind fun zs w8 => .ok (ys' ++ zs) w8)
                        cases hL : lcLoop gm1 tm1 em (wipeS (datS S1) vs1) (es.drop (j + 1)) w10 with
                        | bad => rw [hL] at h10; exact h10
                        | err c fs w11 => rw [hL] at h10; exact h10
                        | ok a w11 =>
                          rw [hL] at h10
                          have h10 : PQ ys ((rest w11).bind fun zs w8 => .ok (y :: a ++ zs) w8) := h10
                          show PQ (ys ++ [y]) ((rest w11).bind fun zs w8 => .ok (a ++ zs) w8)
                          cases hR : rest w11 with
                          | bad => rw [hR] at h10; exact h10
                          | err c fs w12 => rw [hR] at h10; exact h10
                          | ok zs w12 =>
                            rw [hR] at h10
                            intro p vs H' F' k1 k2 k3 k4 k5
                            exact h10 p vs H' F' k1 k2 k3 k4 (by rw [List.append_assoc] at k5; exact k5)
            · rw [if_neg hl1] at h4; exact h4.elim
  · rw [if_neg hl] at h1; exact h1.elim
theorem do_lc2 {elt tg iter tg1 iter1 : Expr} {ifs ifs1 : List Expr} {scope : Scope} {fi fi1 : AM} {gm gm1 : GM} {tm tm1 : TM} {em : EM} {ns ns1 : List Nat} (own : List (Str × Nat)) (vs1 : List Nat) (hc : X.calm = true) (hN : X.N.Nodup) (hi : DI X g E tg iter fi) (ok : BlkOk X.N X.env.scope scope own)
    (hg : ∀ (s : Shared) (H : Hp) (C : Addr) (cl : List (Str × Addr)) (fp : List Addr), DG (X.blk s H scope (compEnvC scope cl C X.env) fp) g tg ns gm) (ht : ∀ (s : Shared) (H : Hp) (C : Addr) (cl : List (Str × Addr)) (fp : List Addr), DTs (X.blk s H scope (compEnvC scope cl C X.env) fp) g (kE E0) ifs tm)
    (hi1 : ∀ (s : Shared) (H : Hp) (C : Addr) (cl : List (Str × Addr)) (fp : List Addr), DI (X.blk s H scope (compEnvC scope cl C X.env) fp) g (kE E0) tg1 iter1 fi1)
    (hg1 : ∀ (s : Shared) (H : Hp) (C : Addr) (cl : List (Str × Addr)) (fp : List Addr), DG (X.blk s H scope (compEnvC scope cl C X.env) fp) g tg1 ns1 gm1) (ht1 : ∀ (s : Shared) (H : Hp) (C : Addr) (cl : List (Str × Addr)) (fp : List Addr), DTs (X.blk s H scope (compEnvC scope cl C X.env) fp) g (kE E0) ifs1 tm1)
    (he : ∀ (s : Shared) (H : Hp) (C : Addr) (cl : List (Str × Addr)) (fp : List Addr), DE (X.blk s H scope (compEnvC scope cl C X.env) fp) g (kE E0) elt em) (hn : ∀ i ∈ ns, i ∈ own.map (·.2) := by decide) (hn1 : ∀ i ∈ ns1, i ∈ vs1 := by decide) (hv : ∀ i ∈ vs1, i ∈ own.map (·.2) := by decide) (hs : ∀ x, foldedSetIterable iter X.env x = pure x := by intro _; rfl) (hs1 : ∀ env x, foldedSetIterable iter1 env x = pure x := by intro _ _; rfl) :
    DO X g E (.ListComp elt [⟨tg, iter, ifs, 0⟩, ⟨tg1, iter1, ifs1, 0⟩] scope pos) (oLc2 fi gm tm fi1 gm1 tm1 em (own.map (·.2)) vs1) := by
  obtain ⟨wi, p, ri⟩ := hi.run
  exact ⟨_, pe_lc2 hc hN p ok hv (fun s H C cl fp => (hg s H C cl fp).pg) (fun s H C cl fp => (ht s H C cl fp).pts) (fun s H C cl fp => (hi1 s H C cl fp).pi) (fun s H C cl fp => (hg1 s H C cl fp).pg) (fun s H C cl fp => (ht1 s H C cl fp).pts) (fun s H C cl fp => (he s H C cl fp).pe) hs hs1, lc2_run hn hn1 ri⟩
theorem ds_setLc2O (i : Nat) {elt tg iter tg1 iter1 : Expr} {ifs ifs1 : List Expr} {scope : Scope} {fi fi1 : AM} {gm gm1 : GM} {tm tm1 : TM} {em : EM} {ns ns1 : List Nat} {spos py : Pos} {y : Str} {F0 : FH} {H0 : Hp} (own : List (Str × Nat)) (vs1 : List Nat) (hc : X.calm = true) (hN : X.N.Nodup) (hy : X.N[i]? = some y) (hyl : X.env.scope.names.lookup y = some .local)
    (hsw : swapsWith (.ListComp elt [⟨tg, iter, ifs, 0⟩, ⟨tg1, iter1, ifs1, 0⟩] scope pos) (some (.Name y py)) spos.line X.env = pure true) (hi : DI X g E tg iter fi) (ok : BlkOk X.N X.env.scope scope own)
    (hg : ∀ (s : Shared) (H : Hp) (C : Addr) (cl : List (Str × Addr)) (fp : List Addr), DG (X.blk s H scope (compEnvC scope cl C X.env) fp) g tg ns gm) (ht : ∀ (s : Shared) (H : Hp) (C : Addr) (cl : List (Str × Addr)) (fp : List Addr), DTs (X.blk s H scope (compEnvC scope cl C X.env) fp) g (kE E0) ifs tm)
    (hi1 : ∀ (s : Shared) (H : Hp) (C : Addr) (cl : List (Str × Addr)) (fp : List Addr), DI (X.blk s H scope (compEnvC scope cl C X.env) fp) g (kE E0) tg1 iter1 fi1)
    (hg1 : ∀ (s : Shared) (H : Hp) (C : Addr) (cl : List (Str × Addr)) (fp : List Addr), DG (X.blk s H scope (compEnvC scope cl C X.env) fp) g tg1 ns1 gm1) (ht1 : ∀ (s : Shared) (H : Hp) (C : Addr) (cl : List (Str × Addr)) (fp : List Addr), DTs (X.blk s H scope (compEnvC scope cl C X.env) fp) g (kE E0) ifs1 tm1)
    (he : ∀ (s : Shared) (H : Hp) (C : Addr) (cl : List (Str × Addr)) (fp : List Addr), DE (X.blk s H scope (compEnvC scope cl C X.env) fp) g (kE E0) elt em) (hn : ∀ i ∈ ns, i ∈ own.map (·.2) := by decide) (hn1 : ∀ i ∈ ns1, i ∈ vs1 := by decide) (hv : ∀ i ∈ vs1, i ∈ own.map (·.2) := by decide) (hs : ∀ x, foldedSetIterable iter X.env x = pure x := by intro _; rfl) (hs1 : ∀ env x, foldedSetIterable iter1 env x = pure x := by intro _ _; rfl) :
    DS X g E F0 H0 (.Assign [.Name y py] (.ListComp elt [⟨tg, iter, ifs, 0⟩, ⟨tg1, iter1, ifs1, 0⟩] scope pos) spos) (sSetO i (oLc2 fi gm tm fi1 gm1 tm1 em (own.map (·.2)) vs1)) := by
  obtain ⟨wi, p, ri⟩ := hi.run
  exact ⟨_, ps_setLc2 hc hN hy hyl hsw p ok hv (fun s H C cl fp => (hg s H C cl fp).pg) (fun s H C cl fp => (ht s H C cl fp).pts) (fun s H C cl fp => (hi1 s H C cl fp).pi) (fun s H C cl fp => (hg1 s H C cl fp).pg) (fun s H C cl fp => (ht1 s H C cl fp).pts) (fun s H C cl fp => (he s H C cl fp).pe) hs hs1, setO_run (lc2_run hn hn1 ri)⟩
theorem ds_setLc2 (i : Nat) {elt tg iter tg1 iter1 : Expr} {ifs ifs1 : List Expr} {scope : Scope} {fi fi1 : AM} {gm gm1 : GM} {tm tm1 : TM} {em : EM} {ns ns1 : List Nat} {spos py : Pos} {y : Str} {F0 : FH} {H0 : Hp} (own : List (Str × Nat)) (vs1 : List Nat) (hc : X.calm = true) (hN : X.N.Nodup) (hy : X.N[i]? = some y) (hyl : X.env.scope.names.lookup y = some .local)
    (hsw : swapsWith (.ListComp elt [⟨tg, iter, ifs, 0⟩, ⟨tg1, iter1, ifs1, 0⟩] scope pos) (some (.Name y py)) spos.line X.env = pure true) (hi : DI X g E tg iter fi) (ok : BlkOk X.N X.env.scope scope own)
    (hg : ∀ (s : Shared) (H : Hp) (C : Addr) (cl : List (Str × Addr)) (fp : List Addr), DG (X.blk s H scope (compEnvC scope cl C X.env) fp) g tg ns gm) (ht : ∀ (s : Shared) (H : Hp) (C : Addr) (cl : List (Str × Addr)) (fp : List Addr), DTs (X.blk s H scope (compEnvC scope cl C X.env) fp) g (kE E0) ifs tm)
    (hi1 : ∀ (s : Shared) (H : Hp) (C : Addr) (cl : List (Str × Addr)) (fp : List Addr), DI (X.blk s H scope (compEnvC scope cl C X.env) fp) g (kE E0) tg1 iter1 fi1)
    (hg1 : ∀ (s : Shared) (H : Hp) (C : Addr) (cl : List (Str × Addr)) (fp : List Addr), DG (X.blk s H scope (compEnvC scope cl C X.env) fp) g tg1 ns1 gm1) (ht1 : ∀ (s : Shared) (H : Hp) (C : Addr) (cl : List (Str × Addr)) (fp : List Addr), DTs (X.blk s H scope (compEnvC scope cl C X.env) fp) g (kE E0) ifs1 tm1)
    (he : ∀ (s : Shared) (H : Hp) (C : Addr) (cl : List (Str × Addr)) (fp : List Addr), DE (X.blk s H scope (compEnvC scope cl C X.env) fp) g (kE E0) elt em) (hn : ∀ i ∈ ns, i ∈ own.map (·.2) := by decide) (hn1 : ∀ i ∈ ns1, i ∈ vs1 := by decide) (hv : ∀ i ∈ vs1, i ∈ own.map (·.2) := by decide) (hs : ∀ x, foldedSetIterable iter X.env x = pure x := by intro _; rfl) (hs1 : ∀ env x, foldedSetIterable iter1 env x = pure x := by intro _ _; rfl) :
    DS X g E F0 H0 (.Assign [.Name y py] (.ListComp elt [⟨tg, iter, ifs, 0⟩, ⟨tg1, iter1, ifs1, 0⟩] scope pos) spos) (sSet i (eFrz (oLc2 fi gm tm fi1 gm1 tm1 em (own.map (·.2)) vs1))) := by
  obtain ⟨wi, p, ri⟩ := hi.run
  exact ⟨_, ps_setLc2 hc hN hy hyl hsw p ok hv (fun s H C cl fp => (hg s H C cl fp).pg) (fun s H C cl fp => (ht s H C cl fp).pts) (fun s H C cl fp => (hi1 s H C cl fp).pi) (fun s H C cl fp => (hg1 s H C cl fp).pg) (fun s H C cl fp => (ht1 s H C cl fp).pts) (fun s H C cl fp => (he s H C cl fp).pe) hs hs1, set_run (frz_run (lc2_run hn hn1 ri))⟩
end
end Y
namespace Y
open PySem PySem.Spec PyProof.Rows L2
/-! ### (i, s) < (j, t) -/
def ltP (i j : Int) (s t : Str) : Bool := if i = j then decide (s.cps.toList < t.cps.toList) else decide (i < j)
def rLtP (K : PySem.W.Frag) : R2 := fun x y H Q => ∃ a b i j s t, x = .ref a ∧ y = .ref b ∧ SqT K H a [.int i, .str s] ∧ SqT K H b [.int j, .str t] ∧ Q (.bl (ltP i j s t)) H
def mLtP : D → D → Option D
  | .tup [.int i, .str s], .tup [.int j, .str t] => some (.bl (ltP i j s t))
  | _, _ => none
section
variable {X : Cx}
theorem op_ltP (hu : X.A.units + 1 < cLine) : OpR X (compareOp .Lt) (rLtP X.K) := by
  intro pins s σ H x y v u Q I rx ry h
  obtain ⟨a, b, i, j, x1, x2, rfl, rfl, ha, hb, q⟩ := h
  cases rx
  cases ry
  obtain ⟨its, r1, p1, _⟩ := I.tuple ha
  obtain ⟨its2, r2, p2, _⟩ := I.tuple hb
  obtain ⟨u1, u2, rfl, s1, s2⟩ := vals2 r1
  obtain ⟨v1, v2, rfl, t1, t2⟩ := vals2 r2
  obtain ⟨k1, rfl⟩ := (show ∃ t, u1 = Value.int i t from s1)
  obtain ⟨k2, rfl⟩ := (show ∃ t, u2 = Value.str x1 t from s2)
  obtain ⟨k3, rfl⟩ := (show ∃ t, v1 = Value.int j t from t1)
  obtain ⟨k4, rfl⟩ := (show ∃ t, v2 = Value.str x2 t from t2)
  show wpAny (model X.prog X.w) X.A (richCompare .Lt (.ref a) (.ref b)) (EP X pins σ Q) X.xe s
  have key := SeqAt.RcLt.tuples (A := X.A) (s := s) (e := fun n => match n with | 0 => i == j | _ => x1 == x2) (r := fun n => match n with | 0 => decide (i < j) | _ => decide (x1.cps.toList < x2.cps.toList)) p1 p2 (by omega) ?e ?r
  case e =>
    intro n h1 h2
    match n, h1, h2 with
    | 0, _, _ => exact (MeetsSeq.EqGives.int i j k1 k3).at _ _
    | 1, _, _ => exact (eqGives_str x1 x2 k2 k4).at _ _
    | n + 2, h1, _ => exact absurd h1 (by simp)
  case r =>
    intro n h1 h2 h3
    match n, h1, h2, h3 with
    | 0, _, _, _ => exact fun prog w E Q hq => lt_int hq
    | 1, _, _, _ => exact fun prog w E Q hq => lt_str hq
    | n + 2, h1, _, _ => exact absurd h1 (by simp)
  refine key X.prog X.w _ _ ⟨.bl (ltP i j x1 x2), H, I, ?_, q⟩
  show Value.bool (SeqAt.firstLt _ _ false [0, 1]) = Value.bool (ltP i j x1 x2)
  unfold ltP SeqAt.firstLt SeqAt.firstLt SeqAt.firstLt
  by_cases e : i = j
  · subst e
    by_cases e2 : x1 = x2
    · subst e2
      simp
    · simp [e2]
  · simp [e]
theorem od_ltP {g : G} (hK : g.K = X.K) : OpD g (rLtP X.K) mLtP := by
  intro F H w x y d e z Q s b rx ry hz q
  rw [← hK]
  unfold mLtP at hz
  split at hz
  · cases hz
    cases rx with
    | tup h1 r1 =>
      cases ry with
      | tup h2 r2 =>
        obtain ⟨v1, v2, rfl, a1, a2⟩ := drs2 r1
        obtain ⟨u1, u2, rfl, b1, b2⟩ := drs2 r2
        cases a1; cases a2; cases b1; cases b2
        exact ⟨_, _, _, _, _, _, rfl, rfl, same_T s h1, same_T s h2, here s b (.bl _) q⟩
  · cases hz
end
end Y
namespace Y
open PySem PySem.Spec PyProof.Rows L2
/-! ### try: .. except X: return b -/
def tS (g : G) (F0 : FH) (H0 : Hp) (E : EK) (m : SM) : TS := fun N σ H => ∃ F S w B, RelS g F0 H0 B F w S σ H ∧ PostS g F0 H0 B E N (m S w)
theorem DSs.pss {X : Cx} {g : G} {E : EK} {F0 : FH} {H0 : Hp} {sts : List Stmt} {m : SM} (h : DSs X g E F0 H0 sts m) : PSs X sts (tS g F0 H0 E m) := by
  obtain ⟨t, p, r⟩ := h.run
  exact ⟨fun pins s σ H N I ⟨F, S, w, B, R, q⟩ => p.run pins s σ H N I (r N σ H F S w B R q)⟩
def sTryR (cs : List Str) (b : Bool) (mb : SM) : SM := fun S w => match mb S w with
  | .err _ c _ w1 => if c ∈ cs then .rt (.bl b) w1 else .bad
  | r => r
/-- the class x takes the errors of the classes cs -/
structure TryK (K : PySem.W.Frag) (mg : Str → Option Value) (cls : CT) (x : Str) (cs : List Str) : Prop where
  ex : ∃ C : Addr, mg x = some (.ref C) ∧ ∀ c ∈ cs, ∃ C', cls c = some C' ∧ PySem.W.exmOne K (.ref C') (.ref C) = some true
section
variable {X : Cx} {g : G} {E : EK} {F0 : FH} {H0 : Hp} {x : Str} {cs : List Str} {b : Bool} {body : List Stmt} {mb : SM} {np pos pos' p1 p2 : Pos} {k1 : Nat}
theorem ds_tryR (hK : g.K = X.K) (M : TryK X.K X.mg g.cls x cs) 
    (hb : ∀ (pn : List (Addr × Obj)) (xe : Value → Shared → Prop) (E' : XK), Takes (X.tr pn xe) (fun cls d _ H => E' cls d H) → DSs (X.tr pn xe) g (kE E') F0 H0 body mb)
    (hs : X.stack = X.env :: X.outer := by rfl) (hf : X.env.frame = some X.env.locals := by rfl) (hg : Gl X x := by rfl) (hdb : (x == ("__debug__" : Str)) = false := by decide) :
    DS X g E F0 H0 (.Try body [.ExceptHandler (some (.Name x np)) none [.Return (some (.Constant (.bool b) k1 p1)) p2] pos'] [] [] pos) (sTryR cs b mb) := by
  obtain ⟨C, hm, hcl⟩ := M.ex
  refine ⟨_, ps_try_only (c := .ref C) (Wout := fun _ _ _ _ => False) (tb := fun W D σ H => ∃ E' : XK, (∀ cls d σ' H', E' cls d H' → W cls d σ' H') ∧ tS g F0 H0 (kE E') mb D σ H) hs hf ?hc LamX.takes0 (fun W pn xe tk _ => ⟨fun pins s σ H N I ⟨E', hE, q⟩ => ?_⟩) (fun a oe cls d pn hz hv => pss_one (ps_ret pe_bl)), fun N σ H F S w B R h => ?_⟩
  case hc => exact ⟨hg, hdb, .inl hm⟩
  · exact (hb pn xe E' fun u s' xx => tk u s' (by
      obtain ⟨a, B, sI, pins', σ', H', cls, d, e, J', nb, up, sky, na, os, ag, z⟩ := xx
      exact ⟨a, B, sI, pins', σ', H', cls, d, e, J', nb, up, sky, na, os, ag, hE _ _ _ _ z⟩)).pss.run pins s σ H N I q
  · unfold sTryR at h
    cases hm2 : mb S w with
    | err S1 c fs w1 =>
      rw [hm2] at h
      simp only at h
      by_cases hc : c ∈ cs
      · rw [if_pos hc] at h
        obtain ⟨C', k1, k2⟩ := hcl c hc
        refine ⟨fun cls d H' => cls = .ref C' ∧ ∃ F', Ext g F0 H0 F' H' w1, fun cls d σ' H' hE => ?_, F, S, w, B, R, ?_⟩
        · obtain ⟨rfl, F', x1⟩ := hE
          exact ⟨true, k2, fun _ a na => h (.bl b) H' F' x1 (.bl b), fun z => by cases z⟩
        · rw [hm2]
          intro σ' H' F' R' cl a vs n kc l r
          rw [k1] at kc; cases kc
          exact ⟨rfl, F', R'.ext⟩
      · rw [if_neg hc] at h; exact h.elim
    | bad => rw [hm2] at h; exact h.elim
    | nx S1 w1 => rw [hm2] at h; exact ⟨fun _ _ _ => False, fun _ _ _ _ z => z.elim, F, S, w, B, R, by rw [hm2]; exact h⟩
    | rt d w1 => rw [hm2] at h; exact ⟨fun _ _ _ => False, fun _ _ _ _ z => z.elim, F, S, w, B, R, by rw [hm2]; exact h⟩
    | bk S1 w1 => rw [hm2] at h; exact ⟨fun _ _ _ => False, fun _ _ _ _ z => z.elim, F, S, w, B, R, by rw [hm2]; exact h⟩
    | ct S1 w1 => rw [hm2] at h; exact ⟨fun _ _ _ => False, fun _ _ _ _ z => z.elim, F, S, w, B, R, by rw [hm2]; exact h⟩
end
end Y
/-! ### the head, run once in the kernel and seen by a Hook of one's own -/
namespace Y
open PySem PySem.Spec PyProof.Rows L2
section
variable {T : Tell} {w : World} {h : Heap} {K : Fr}
theorem Says.q (S : Says T w h K) (i : Nat) {q : Qy} (e : T.chk[i]? = some q := by rfl) : q.l K = q.r K := Qy.says (S.ck q (List.mem_of_getElem? e))
theorem fn_get {x : FnA} (e1 : seeF K (x.ad K) = x.due) (e2 : FnA.ok K x = true) : ∃ oc od cl kV doc pm an cdv ct sl, K.lookup (x.ad K) = some ⟨oc, od, .func (PySem.W.fnX x.nam x.qua (defArgs x.st) (defBody x.st) (defScope x.st) cl .none kV doc pm an cdv ct), sl⟩ ∧ cl.map Prod.fst = x.clo ∧ PySem.W.codeIn K cdv x.qua = true ∧ PySem.W.keepIn K (.ref (x.ad K)) = true := by
  unfold FnA.ok at e2
  unfold seeF at e1
  cases q : K.lookup (x.ad K) with
  | none => rw [q] at e2; cases e2
  | some o =>
    obtain ⟨oc, od, dt, osl⟩ := o
    rw [q] at e1 e2
    cases dt with
    | func fd =>
      obtain ⟨n1, n2, n3, n4, n5, n6, n7, n8, n9, n10, n11, n12, n13, n14, n15⟩ := fd
      obtain ⟨c1, c2⟩ := He.ba e2
      obtain ⟨c3, c4⟩ := He.ba c2
      have e3 := Option.some.inj e1
      simp only [FnA.due, Option.some.injEq, Prod.mk.injEq] at e1
      obtain ⟨⟨h1, h2⟩, ⟨h3, h4, h5⟩, ⟨h6, h7⟩, h8⟩ := e1
      have h9 : n8 = .none := of_decide_eq_true c3
      subst h1 h2 h3 h4 h5 h6 h7 h9
      exact ⟨oc, od, n7, n9, n10, n11, n12, n13, n14, osl, rfl, h8, c1, c4⟩
    | _ => cases e2
theorem Says.fnX (S : Says T w h K) (i : Nat) {x : FnA} (e : T.fns[i]? = some x) : ∃ oc od cl kV doc pm an cdv ct sl, K.lookup (x.ad K) = some ⟨oc, od, .func (PySem.W.fnX x.nam x.qua (defArgs x.st) (defBody x.st) (defScope x.st) cl .none kV doc pm an cdv ct), sl⟩ ∧ cl.map Prod.fst = x.clo ∧ PySem.W.codeIn K cdv x.qua = true ∧ PySem.W.keepIn K (.ref (x.ad K)) = true := by
  have e2 : (T.fns.map fun x => seeF K (x.ad K))[i]? = (T.fns.map FnA.due)[i]? := by rw [S.fn]
  rw [List.getElem?_map, List.getElem?_map, e] at e2
  exact fn_get (Option.some.inj e2) (S.fo x (List.mem_of_getElem? e))
/-- a def or a method without a closure -/
theorem Says.f (S : Says T w h K) (i : Nat) {x : FnA} (e : T.fns[i]? = some x := by rfl) (hc : x.clo = [] := by rfl) : ∃ fd, Fun K x.nam x.qua x.st (x.ad K) fd := by
  obtain ⟨oc, od, cl, kV, doc, pm, an, cdv, ct, sl, lk, h1, h2, h3⟩ := S.fnX i e
  rw [hc] at h1
  have : cl = [] := List.map_eq_nil_iff.mp h1
  subst this
  exact ⟨_, ⟨oc, od, kV, doc, pm, an, cdv, ct, sl, rfl, lk, h2⟩, h3⟩
/-! a method that looks at its class -/
/-- the class that the def at f looks at -/
theorem Says.sup (S : Says T w h K) (i : Nat) {x : FnA} {P : Program} (e : T.fns[i]? = some x) (hc : x.clo = [("__class__" : Str)]) (ho : supOk P K (x.ad K) = true) : ∃ fd NFF, FunS P K x.nam x.qua x.st (x.ad K) (supA K (x.ad K)) fd NFF ∧ ∃ cc kV doc pm an cdv ct, fd = PySem.W.fnX x.nam x.qua (defArgs x.st) (defBody x.st) (defScope x.st) [("__class__", cc)] .none kV doc pm an cdv ct := by
  obtain ⟨oc, od, cl, kV, doc, pm, an, cdv, ct, sl, lk, h1, h2, h3⟩ := S.fnX i e
  rw [hc] at h1
  obtain ⟨cc, rfl⟩ : ∃ cc, cl = [(("__class__" : Str), cc)] := by
    match cl, h1 with
    | [(n, c)], h1 => exact ⟨c, by simp only [List.map_cons, List.map_nil, List.cons.injEq, and_true] at h1; rw [h1]⟩
  unfold supOk at ho
  rw [lk] at ho
  dsimp only at ho
  have ea : supA K (x.ad K) = cellV K cc := by unfold supA; rw [lk]
  cases q1 : K.lookup cc with
  | none => rw [q1] at ho; cases ho
  | some o1 =>
    obtain ⟨c1, c2, c3, c4⟩ := o1
    rw [q1] at ho
    cases c3 with
    | cell v =>
      cases v with
      | none => cases ho
      | some v =>
        cases v with
        | ref dd =>
          have ed : cellV K cc = dd := by unfold cellV; rw [q1]
          cases cdv with
          | ref ca =>
            dsimp only at ho
            cases q2 : K.lookup ca with
            | none => rw [q2] at ho; cases ho
            | some o2 =>
              obtain ⟨d1, d2, d3, d4⟩ := o2
              rw [q2] at ho
              cases d3 with
              | fields vs =>
                dsimp only at ho
                cases q3 : (vs[2]? : Option Value) with
                | none => rw [q3] at ho; cases ho
                | some u =>
                  rw [q3] at ho
                  cases u with
                  | str fi tf =>
                    rw [ea, ed]
                    exact ⟨_, _, ⟨⟨oc, od, kV, doc, pm, an, ca, ct, sl, cc, c1, c2, c4, d1, d2, vs, d4, fi, tf, rfl, rfl, lk, h2, q1, q2, q3, ho⟩, h3⟩, cc, kV, doc, pm, an, .ref ca, ct, rfl⟩
                  | _ => cases ho
              | _ => cases ho
          | _ => cases ho
        | _ => cases ho
    | _ => cases ho
/-! places by names -/
/-- the object that a class's name is read as, by way of its own get -/
theorem isGet_ok {C p : Addr} {m : Str} {b : String} (e : isGet K C m p b = true) : PySem.W.findCls K (.ref C) (.type "type") m = some (.get (.builtin b) (.ref p) .none (.ref C)) := by
  unfold isGet at e
  split at e
  · rename_i z q D hq
    obtain ⟨e1, e2⟩ := He.ba e
    obtain ⟨e2, e3⟩ := He.ba e2
    rw [hq, of_decide_eq_true e1, of_decide_eq_true e2, of_decide_eq_true e3]
  · cases e
theorem isVal_ok {C : Addr} {m : Str} {i : Int} (e : isVal K C m i = true) : ∃ t, PySem.W.findCls K (.ref C) (.type "type") m = some (.val (.int i t)) := by
  unfold isVal at e
  split at e
  · rename_i j t hq; rw [hq, of_decide_eq_true e]; exact ⟨t, rfl⟩
  · cases e
/-! the module's constants -/
theorem glb_strB {X : K.In h} {mg : Str → Option Value} (G : h.Ns mainGlobals mg) {x z : Str} (e : (He.Fa.str x z).ok K = true) : Glb K mg x (.str z) := by
  obtain ⟨t, ht⟩ := He.str_ok X G e
  exact glb_str ht
theorem glb_intB {X : K.In h} {mg : Str → Option Value} (G : h.Ns mainGlobals mg) {x : Str} {z : Int} (e : (He.Fa.int x z).ok K = true) : Glb K mg x (.int z) := by
  obtain ⟨t, ht⟩ := He.int_ok X G e
  exact ⟨.int z, _, ht, ⟨t, rfl⟩, fun _ _ _ => .int z⟩
theorem glb_tupB {X : K.In h} {mg : Str → Option Value} (G : h.Ns mainGlobals mg) {x : Str} {vs : List He.Dv} {ds : List D} (hm : PySem.W.nsIn K mainGlobals x = some (some (.ref (He.ga K x)))) (e : He.tupB K x vs = true) (hd : ∀ (g : Y.G) (F : FH), DRs g F (vs.map (He.Dv.v K)) ds) : Glb K mg x (.tup ds) :=
  ⟨.ref (He.ga K x), _, PySem.W.mg_of X G hm, rfl, fun g F hg => .tup (by rw [hg]; exact He.tupB_ok e F) (hd g F)⟩
theorem Says.tabT {X : K.In h} {mg : Str → Option Value} (S : Says T w h K) (G : h.Ns mainGlobals mg) {x : Str} {ks : List Str} {t : List (Str × Str)} (i : Nat) (e : T.tab[i]? = some (fun K => He.ga K x, ks)) (hm : PySem.W.nsIn K mainGlobals x = some (some (.ref (He.ga K x)))) (hv : kvsOk K x t = true) : Tab w K mg x t := by
  have e2 : (T.tab.map fun t => He.dicW K (t.1 K))[i]? = (T.tab.map fun t => some (He.keysIn w.params t.2))[i]? := by rw [S.tb]
  rw [List.getElem?_map, List.getElem?_map, e] at e2
  obtain ⟨es, n, k1, k2, k3⟩ := He.dicW_ok (Option.some.inj e2)
  refine ⟨He.ga K x, es, n, PySem.W.mg_of X G hm, k1, k2, k3, ?_⟩
  unfold kvsOk at hv
  rw [show K.lookup (He.ga K x) = _ from k1] at hv
  exact of_decide_eq_true hv
/-! classes of errors -/
theorem oexB_ok {C : Addr} (e : oexB K C = true) : ∃ nm q N bs bm sn sub ab col dd k0 k1 k2 k3 k5, K.lookup C = some (excClassObj nm q C N bs bm true sn sub ab col dd k0 k1 k2 k3 k5 "ValueError.__new__") ∧ PySem.HandSPX.refsVE bm = true := by
  unfold oexB at e
  split at e
  · rename_i t dd cd sl hq
    obtain ⟨e1, e⟩ := He.ba e
    obtain ⟨e2, e⟩ := He.ba e
    obtain ⟨e3, e⟩ := He.ba e
    obtain ⟨e4, e5⟩ := He.ba e
    obtain ⟨c1, c2, c3, c4, c5, c6, c7, c8, c9, c10, c11⟩ := cd
    dsimp only at e2 e3 e4
    subst e2
    have e3 : c11 = false := by cases c11 <;> first | rfl | cases e3
    subst e3
    have e1 := of_decide_eq_true e1
    subst e1
    split at e4
    · rename_i C' bm
      obtain ⟨f1, f2⟩ := He.ba e4
      have f1 := of_decide_eq_true f1
      subst f1
      split at e5
      · rename_i k0 k1 k2 k3 n k5 hs
        have e5 := of_decide_eq_true e5
        subst e5
        obtain ⟨sl⟩ := sl
        have hs : sl = _ := hs
        subst hs
        exact ⟨_, _, _, _, _, _, _, _, _, _, _, _, _, _, _, hq, f2⟩
      · cases e5
    · cases e4
  · cases e
/-! tables of code objects -/
theorem Says.lamt (S : Says T w h K) (i : Nat) {x : Str} (e : T.lam[i]? = some x) : PySem.W.tabIn K x = some (lamC K x, lamP K x) ∧ PySem.W.codeHdIn K (lamC K x) (lamP K x) = true ∧ K.lookup (lamP K x) = none ∧ h.get? (lamP K x) = some { cls := .none, data := .fields #[] } := by
  obtain ⟨c, P, h1, h2, h3, h4⟩ := S.lm x (List.mem_of_getElem? e)
  have e1 : lamC K x = c := by unfold lamC; rw [h1]
  have e2 : lamP K x = P := by unfold lamP; rw [h1]
  rw [e1, e2]
  exact ⟨h1, h2, h3, h4⟩
theorem fun_one {x q : Str} {st : Stmt} {f : Addr} {fd fd2 : FuncData} (F : Fun K x q st f fd) (F2 : Fun K x q st f fd2) : fd = fd2 := by
  obtain ⟨_, _, _, _, _, _, _, _, _, _, l1, _⟩ := F.ex
  obtain ⟨_, _, _, _, _, _, _, _, _, _, l2, _⟩ := F2.ex
  rw [l1] at l2
  cases l2
  rfl
theorem name_eq {mg : Str → Option Value} {x y : Str} {v : Value} (e : x = y) (hm : mg x = some v) : mg y = some v := e ▸ hm
end
end Y
/-! ### a comprehension whose element looks back at the frame that it stands in -/
namespace Y
open PySem PySem.Spec PyProof.Rows L2
section
variable {X : Cx}
/-- [elt for tg in iter], where the element's reading may lean on the def's own state at the block's entry -/
theorem pe_lcI {elt tg iter : Expr} {scope : Scope} {own : List (Str × Nat)} {pos : Pos} {wi : TI} {g : TG} {te : L2.St → TE} (hcalm : X.calm = true) (hnd : X.N.Nodup) (hit : PI X tg iter wi) (bok : BlkOk X.N X.env.scope scope own)
    (hg : ∀ (s : Shared) (H : Hp) (C : Addr) (cl : List (Str × Addr)) (fp : List Addr), PG (X.blk s H scope (compEnvC scope cl C X.env) fp) tg g)
    (he : ∀ (pins : List (Addr × Obj)) (σ : L2.St) (s : Shared) (H : Hp) (C : Addr) (cl : List (Str × Addr)) (fp : List Addr), Inv X pins σ H s → (∀ b ∈ fp, FpOk X pins H b) → PE (X.blk s H scope (compEnvC scope cl C X.env) fp) elt (te σ))
    (hfold : ∀ x, foldedSetIterable iter X.env x = pure x := by intro _; rfl) : PE X (.ListComp elt [⟨tg, iter, [], 0⟩] scope pos) (fun σ H Q => tLc wi g tYes (te σ) (own.map (·.2)) σ H Q) := by
  refine ⟨fun pins s σ H Q I hread => ?_⟩
  rw [eval_ListComp]
  have hcells : ∀ y ∈ scope.names, y.2 = .free → ∃ c, X.env.cells.lookup y.1 = some c := fun y hy e => (bok.free y hy e).elim (fun k => I.ok.has _ (.inl k)) fun k => I.ok.has _ (.inr k)
  refine wpAny_comprehension_free rfl hfold (closure_ok hcells) bok.kind (fun y hy e => by rw [bok.uniq y hy, e]) (thn (hit.run pins s σ H _ I hread) fun _ _ hx => thn hx fun _ s2 ⟨it, fp, tn, J, H2, e, I2, T, st2, f2, q⟩ => ?_)
  subst e
  refine wpAny_newObj_type (newEnv_comp ?_) (by show 0 ≤ sizeLine; decide)
  -- the list that is filled
  obtain ⟨D, hD⟩ : ∃ D, s2.heap.objs.size = D := ⟨_, rfl⟩
  rw [hD]
  obtain ⟨W, ⟨m0, w0⟩, turn⟩ := q D (I2.hok.fresh (Nat.le_of_eq hD))
  obtain ⟨s3, hs3⟩ : ∃ s3 : Shared, ({ s2 with heap := s2.heap.push { cls := .type "list", data := .seq ([] : List Value).toArray } } : Shared) = s3 := ⟨_, rfl⟩
  obtain ⟨H3, hH3⟩ : ∃ H3 : Hp, upd H2 D (.lst []) = H3 := ⟨_, rfl⟩
  have hp3 : s3.heap = s2.heap.push { cls := .type "list", data := .seq ([] : List Value).toArray } := by rw [← hs3]
  have I3 : Inv X pins σ H3 s3 := by
    rw [← hH3, ← hs3]
    exact I2.laid (t' := s2.toks) (fun b o z => Heap.get?_push_of_some _ z) (Nat.le_of_eq hD) ⟨Nat.zero_le _, [], 0, .nil, by rw [← hD]; exact Heap.get?_push_size _ rfl⟩
  have small : ∀ b ∈ fp, b < s2.heap.objs.size := fun b hb => let ⟨_, z, _⟩ := T.obj _ _ st2 b hb; Heap.lt_size z
  have f3 : ∀ b ∈ fp, FpOk X pins H3 b ∧ b < s3.heap.objs.size := fun b hb => by
    have lt := small b hb
    refine ⟨⟨?_, (f2 b hb).2⟩, by rw [hp3, Heap.size_push]; exact Nat.lt_succ_of_lt lt⟩
    rw [← hH3, upd_ne (show b ≠ D from Nat.ne_of_lt (hD ▸ lt))]
    exact (f2 b hb).1
  have st3 : tn 0 s3.heap := T.keep _ _ _ st2 fun b _ o z => by rw [hp3]; exact Heap.get?_push_of_some _ z
  have I4 := block_start I3 bok hnd f3
  rw [hs3]
  rw [hH3] at w0
  obtain ⟨ce, hce⟩ : ∃ ce, compEnvC scope (cellsFrom (s3.heap.objs.size + 1) scope.names (cloFrom X.env.cells scope.names [])) s3.heap.objs.size X.env = ce := ⟨_, rfl⟩
  have pg := hg s3 H3 s3.heap.objs.size (cellsFrom (s3.heap.objs.size + 1) scope.names (cloFrom X.env.cells scope.names [])) fp
  have pe := he pins σ s3 H3 s3.heap.objs.size (cellsFrom (s3.heap.objs.size + 1) scope.names (cloFrom X.env.cells scope.names [])) fp I3 fun b hb => (f3 b hb).1
  have nfp : ∀ b ∈ fp, H3 b = none := fun b hb => (f3 b hb).1.1
  have cL : ce.locals = s3.heap.objs.size := by subst hce; rfl
  rw [hce] at I4 pg pe
  obtain ⟨s4, hs4⟩ : ∃ s4 : Shared, ({ s3 with heap := pushCells (s3.heap.push { cls := .type "dict", data := .dict #[] }) scope.names } : Shared) = s4 := ⟨_, rfl⟩
  rw [hs4] at I4
  have st4 : tn 0 s4.heap := T.keep _ _ _ st3 fun b _ o z => by rw [← hs4]; exact pushCells_keeps _ _ _ _ (Heap.get?_push_of_some _ z)
  have walk : ∀ {σ' : L2.St} {H' : Hp} {s' : Shared}, Inv (X.blk s3 H3 scope ce fp) [] σ' H' s' → (∀ b ∈ fp, H' b = none) → ∀ b ∈ fp, FpOk (X.blk s3 H3 scope ce fp) [] H' b := fun {σ' H' s'} I' hn b hb =>
    ⟨hn b hb, (I'.ok.exf b hb).1, I'.ok.exfs b hb, .inl hb, fun x c z => (I'.ok.exf b hb).2 x c z, fun p hp => by cases (show p ∈ ([] : List (Addr × Obj)) from hp)⟩
  have loop : codeAny (model X.prog X.w) X.A (.compLoop (.ListComp elt [⟨tg, iter, [], 0⟩] scope pos) 0 (.ref it) (.ref D) ce) (compPost (model X.prog X.w) X.A X.xe none (fun v s' => ∃ (y : V) (H' : Hp), Inv X pins σ H' s' ∧ RelV y v ∧ Q y H') (.ref D) s3.heap.objs.size) s4 := by
    refine compLoop_any (fun n s' => ∃ i H', Inv (X.blk s3 H3 scope ce fp) [] (wipe σ (own.map (·.2))) H' s' ∧ tn i s'.heap ∧ (∀ b ∈ fp, H' b = none) ∧ W i n H') ?_ m0 ⟨0, H3, I4, st4, nfp, w0⟩
    rintro n s5 ⟨i, H5, I5, st5, n5, w5⟩
    rcases turn i n H5 w5 with ⟨stop, qq⟩ | ⟨go, Nx, hNx, step⟩
    · refine thnF (T.done (X.blk s3 H3 scope ce fp) rfl rfl rfl hcalm i [] s5 _ H5 (fun _ _ => False) I5 (walk I5 n5) st5 stop) fun r s6 ⟨hr, I6⟩ => ?_
      subst hr
      have I7 : Inv X pins σ H5 s6 := I3.call' (ch := fp) I6.os I6.base I6.hok I6.bare fun b hb => ⟨(f3 b hb).1.2.2.2.1, (f3 b hb).1.2.1, (f3 b hb).1.2.2.2.2.1, (f3 b hb).1.2.2.2.2.2⟩
      have nC : H5 s3.heap.objs.size = none := by have z : H5 ce.locals = none := I6.free; rw [cL] at z; exact z
      obtain ⟨m, hn, _⟩ := I6.loc
      have hn : s6.heap.Ns ce.locals m := hn
      rw [cL] at hn
      obtain ⟨f0, f1, f2', f3', f4, f5⟩ := I3.fpOk (Nat.le_refl _) nC
      refine ⟨m, hn, fun h'' sb => ?_⟩
      exact ⟨.ref D, H5, I7.turned (t' := s6.toks) (fun b o hb z => (sb.2 b hb).trans z) f0 f1 f3' f4 f5, rfl, qq⟩
    · refine thnF (T.item (X.blk s3 H3 scope ce fp) rfl rfl rfl hcalm i [] s5 _ H5 (fun _ _ => False) I5 (walk I5 n5) st5 go) fun r s6 ⟨u, hr, h6⟩ => ?_
      subst hr
      refine thnF h6 fun _ s7 ⟨x, H7, I7, r7, y7, st7, n7⟩ => ?_
      refine thnF (pg.run _ s7 _ H7 x u _ (I7.pinned (walk I7 n7) (T.obj _ _ st7)) r7 (step x H7 y7)) fun _ s8 ⟨σ8, H8, I8, hw8, q8⟩ => ?_
      refine thnF ((pts_nil (X := X.blk s3 H3 scope ce fp)).run _ s8 σ8 H8 _ I8 q8) fun b s9 ⟨H9, I9, q9⟩ => ?_
      have fin : ∀ {s' : Shared} {H' : Hp}, Inv (X.blk s3 H3 scope ce fp) ([] ++ pinsAt fp s7.heap) σ8 H' s' → Nx H' → ∃ m, m < n ∧ ∃ i H', Inv (X.blk s3 H3 scope ce fp) [] (wipe σ (own.map (·.2))) H' s' ∧ tn i s'.heap ∧ (∀ b ∈ fp, H' b = none) ∧ W i m H' := fun {s' H'} I' nx => by
        obtain ⟨m', hm, w'⟩ := hNx H' nx
        have held : ∀ b ∈ fp, ∀ o, s7.heap.get? b = some o → s'.heap.get? b = some o ∧ H' b = none := fun b hb o z =>
          let y := I'.pin (b, o) (List.mem_append_right _ (List.mem_append_right _ (mem_pinsAt hb z)))
          ⟨y.1, y.2.1⟩
        refine ⟨m', hm, i + 1, H', (I'.unpinned (pins := [])).weak (by rw [← hw8, wipe_length]) (fun j v z => by rw [← hw8] at z; exact (wipe_some z).1), T.keep _ _ _ st7 fun b hb o z => (held b hb o z).1, fun b hb => ?_, w'⟩
        obtain ⟨o, z, _⟩ := T.obj _ _ st7 b hb
        exact (held b hb o z).2
      cases b with
      | false => simp only [Bool.false_eq_true, if_false] at q9 ⊢; exact fin I9 q9
      | true =>
        simp only [if_true] at q9 ⊢
        exact thnF (pe.run _ s9 σ8 H9 _ I9 q9) fun z s10 ⟨yv, H10, I10, r10, acc, hD10, hz10, nx⟩ => app_ok (X := X.blk s3 H3 scope ce fp) I10 hD10 hz10 r10 fun s11 I11 => fin I11 nx
  have start := codeAny_compStart_list loop (T.self X.A 0 _ _ _ st4 loop)
  rw [← hce, ← hs4] at start
  exact start
end
end Y
/-! ### lambdas that are kept -/
namespace Y
open PySem PySem.Spec PyProof.Rows L2
section
variable {X : Cx} {pins : List (Addr × Obj)} {σ : L2.St} {H : Hp} {s : Shared}
theorem lamF_new {P : Program} {w : World} {H : Hp} {h : Heap} {cl : List (Str × Addr)} {c' : Addr} {dV doc pm ctv : Value} {l : LamI} : ObjOk P w (upd H h.objs.size (LamF cl h.objs.size c' dV l)) (h.push (PySem.W.kdv_obj "<lambda>" l.q l.ps (.expr l.bd) l.sc (cloFrom cl l.sc.names []) dV doc pm c' ctv)) h.objs.size (LamF cl h.objs.size c' dV l) :=
  ⟨⟨doc, pm, ctv, Heap.get?_push_size _ rfl⟩, ⟨_, Heap.get?_push_size _ rfl⟩, fun h1 h2 ⟨d, p, c, e⟩ st => ⟨d, p, c, st _ e⟩⟩
theorem lamF_ne {cl : List (Str × Addr)} {f c' : Addr} {dV : Value} {l : LamI} (ps : Array Value) : LamF cl f c' dV l ≠ .tbl ps := fun z => by unfold LamF at z; cases z
/-- the function object is made, its defaults are dV -/
theorem lam_tail {T : List (Addr × Str)} {c P : Addr} {dV : Value} {l : LamI} {pos : Pos} {line : Nat} {E : Value → Shared → Prop} {Q : Value → Shared → Prop} (I : Inv X pins σ H s) (TB : LamX.TabB X.base X.mg c P) (hcode : X.env.code = .ref c) (hm : (P, l.q) ∈ T)
    (hu : ∀ p ∈ T, p.1 = P → p.2 = l.q) (hT : LamX.Tabs T H) (hfree : ∀ y ∈ l.sc.names, y.2 = .free → ∃ c, X.env.cells.lookup y.1 = some c)
    (h : ∀ (f c' : Addr) (H1 : Hp) (s' : Shared), Inv X pins σ H1 s' → ExtL T H H1 → H f = none → H1 f = some (LamF X.env.cells f c' dV l) → H1 c' = some (LamX.CodeO c' l.q) → Q (.ref f) s') :
    wpAny (model X.prog X.w) X.A (makeTail "<lambda>" l.q l.ps (.expr l.bd) l.sc X.env dV .none none pos line) Q E s := by
  obtain ⟨tab, tabH, tabOk, tabC⟩ := hT _ hm
  have bP : s.heap.BuiltinsAt X.mg P := TB.bm.keeps I.bk
  have tabS : s.heap.get? P = some { cls := .none, data := .fields tab } := I.hok P _ tabH
  cases hc : codeAmong pos tab.toList with
  | some cv =>
    obtain ⟨c', rfl, hco⟩ := tabC pos cv hc
    refine PySem.W.kdv_makeTailHit (mg := X.mg) (c := c) (P := P) (ps := tab) (closure_ok hfree) I.ok.glob (I.mod.glob.keeps I.bk) hcode (TB.code.keeps I.bk) tabS tabOk hc bP fun ctv doc h' tk hx hsz => ?_
    have nf : H h'.objs.size = none := I.hok.fresh hsz
    have ex : ∀ b o, H b = some o → upd H h'.objs.size (LamF X.env.cells h'.objs.size c' dV l) b = some o := fun b o e => by rw [upd_ne (ne_of_none e nf)]; exact e
    exact h h'.objs.size c' _ _ (I.laid (t' := tk) (fun b o e => Heap.get?_push_of_some _ (hx b o e)) hsz lamF_new) ⟨LamX.ExtN.of ex, fun b z => NdefX.upd_none z, hT.ext ex⟩ nf upd_same (ex _ _ hco)
  | none =>
    refine PySem.W.kdv_makeTail (mg := X.mg) (c := c) (P := P) (ps := tab) (closure_ok hfree) I.ok.glob (I.mod.glob.keeps I.bk) hcode (TB.code.keeps I.bk) tabS tabOk hc TB.gP bP fun c' ctv doc h' tk hx hge hlt hrec htb => ?_
    obtain ⟨c2, oc, us, t, e2, k1, k2, k3⟩ := hrec
    cases e2
    have big : s.heap.objs.size ≤ h'.objs.size := Nat.le_trans hge (Nat.le_of_lt hlt)
    have nC : H c' = none := I.hok.fresh hge
    have lst : (tab ++ #[rawInt pos.line, rawInt pos.col, .ref c']).toList = tab.toList ++ [rawInt pos.line, rawInt pos.col, .ref c'] := by simp
    have J := LamX.inv_table (q := l.q) (t' := tk) (more := #[rawInt pos.line, rawInt pos.col, .ref c']) (h' := h') I tabH (fun b o hb e => hx b o hb e) htb hge ⟨oc, us, t, k1, k2, k3⟩
    generalize hH2 : upd (upd H P (.tbl (tab ++ #[rawInt pos.line, rawInt pos.col, .ref c']))) c' (LamX.CodeO c' l.q) = H2 at J
    have ex0 : LamX.ExtN H H2 := fun b o e n => by
      have b1 : b ≠ c' := ne_of_none e nC
      have b2 : b ≠ P := fun z => n tab (Option.some.inj (e.symm.trans (by rw [z]; exact tabH)))
      rw [← hH2, upd_ne b1, upd_ne b2]; exact e
    have tb2 : LamX.Tabs T H2 := fun p hp => by
      by_cases hb : p.1 = P
      · rw [hu p hp hb, hb]
        refine ⟨_, by rw [← hH2, upd_ne (ne_of_none tabH nC), upd_same], by rw [lst]; exact PySem.TriplesOk_snoc _ _ _ _ tabOk, fun p' cv hcv => ?_⟩
        rw [lst] at hcv
        rcases LamX.among_app _ tabOk hcv with z | z
        · obtain ⟨c0, e1, e2⟩ := tabC p' cv z
          exact ⟨c0, e1, ex0 _ _ e2 LamX.codeO_ne⟩
        · exact ⟨c', z, by rw [← hH2]; exact upd_same⟩
      · obtain ⟨tab2, a1, a2, a3⟩ := hT p hp
        refine ⟨tab2, by rw [← hH2, upd_ne (ne_of_none a1 nC), upd_ne hb]; exact a1, a2, fun p' cv hcv => ?_⟩
        obtain ⟨c0, e1, e2⟩ := a3 p' cv hcv
        exact ⟨c0, e1, ex0 _ _ e2 LamX.codeO_ne⟩
    have dom0 : ∀ b, H2 b = none → H b = none := fun b z => by rw [← hH2] at z; exact NdefX.upd_none (NdefX.upd_none z)
    have cC : H2 c' = some (LamX.CodeO c' l.q) := by rw [← hH2]; exact upd_same
    have nf : H2 h'.objs.size = none := J.hok.fresh (Nat.le_refl _)
    have ex : ∀ b o, H2 b = some o → upd H2 h'.objs.size (LamF X.env.cells h'.objs.size c' dV l) b = some o := fun b o e => by rw [upd_ne (ne_of_none e nf)]; exact e
    exact h h'.objs.size c' _ _ (J.laid (t' := tk) (fun b o e => Heap.get?_push_of_some _ e) (Nat.le_refl _) lamF_new) ⟨ex0.trans (LamX.ExtN.of ex), fun b z => dom0 b (NdefX.upd_none z), tb2.ext ex⟩ (dom0 _ nf) upd_same (ex _ _ cC)
theorem ExtL.trans {T : List (Addr × Str)} {H H1 H2 : Hp} (a : ExtL T H H1) (b : ExtL T H1 H2) : ExtL T H H2 := ⟨a.ext.trans b.ext, fun x z => a.dom x (b.dom x z), b.tabs⟩
/-- reading of a lambda as a value -/
def tLamV (T : List (Addr × Str)) (cl : List (Str × Addr)) (l : LamI) : TE := fun _ H Q => LamX.Tabs T H ∧ ∀ (f c' : Addr) (dV : Value) (H1 : Hp), ExtL T H H1 → H f = none → H1 f = some (LamF cl f c' dV l) → H1 c' = some (LamX.CodeO c' l.q) → DflF H1 dV l.ps → (∀ t, dV = .ref t → H t = none) → Q (.ref f) H1
theorem pe_lam0 {T : List (Addr × Str)} {c P : Addr} {params : Arguments} {body : Expr} {scope : Scope} {pos : Pos} (TB : LamX.TabB X.base X.mg c P) (hcode : X.env.code = .ref c) (hm : (P, X.env.qual ++ "<lambda>") ∈ T) (hu : ∀ p ∈ T, p.1 = P → p.2 = X.env.qual ++ "<lambda>")
    (hfree : ∀ y ∈ scope.names, y.2 = .free → X.env.kindOf y.1 = some .cell ∨ X.env.kindOf y.1 = some .free) (hdef : defaultsOf params X.env = ([], [])) (hd0 : params.defaults = []) : PE X (.Lambda params body scope pos) (tLamV T X.env.cells ⟨X.env.qual ++ "<lambda>", params, body, scope⟩) := by
  refine ⟨fun pins s σ H Q I ⟨hT, h⟩ => ?_⟩
  refine PySem.W.kla_eval hdef ?_
  rw [makeFunction_eq]
  simp only [List.zip_nil_right, List.filterMap_nil, List.isEmpty_nil, if_true, pure_bind]
  exact lam_tail (l := ⟨X.env.qual ++ "<lambda>", params, body, scope⟩) I TB hcode hm hu hT (fun y hy e => I.ok.has _ (hfree y hy e)) fun f c' H1 s' J x nf hf hc => ⟨.ref f, H1, J, rfl, h f c' .none H1 x nf hf hc (.inl ⟨hd0, rfl⟩) fun t z => by cases z⟩
theorem pe_lam1 {T : List (Addr × Str)} {c P : Addr} {params : Arguments} {body : Expr} {scope : Scope} {pos pc : Pos} {i : Int} {j : Nat} (TB : LamX.TabB X.base X.mg c P) (hcode : X.env.code = .ref c) (hm : (P, X.env.qual ++ "<lambda>") ∈ T) (hu : ∀ p ∈ T, p.1 = P → p.2 = X.env.qual ++ "<lambda>")
    (hfree : ∀ y ∈ scope.names, y.2 = .free → X.env.kindOf y.1 = some .cell ∨ X.env.kindOf y.1 = some .free) (hd1 : params.defaults = [.Constant (.int i) j pc]) (hk0 : params.kw_defaults = []) : PE X (.Lambda params body scope pos) (tLamV T X.env.cells ⟨X.env.qual ++ "<lambda>", params, body, scope⟩) := by
  refine ⟨fun pins s σ H Q I ⟨hT, h⟩ => ?_⟩
  refine PySem.W.kdv_lam (by rw [hd1]; rfl) hk0 ?_
  rw [hd1]
  refine PySem.W.kdv_all1 (thn ((pe_int (X := X) (i := i) (j := j) (pos := pc)).run pins s σ H (fun v H' => v = .int i ∧ H' = H) I ⟨rfl, rfl⟩) fun v s1 hv => PySem.W.kdv_all0 ?_)
  obtain ⟨y, H', J, rv, rfl, rfl⟩ := hv
  rw [makeFunction_eq]
  simp only [List.zip_nil_right, List.filterMap_nil, List.isEmpty_nil, if_true, pure_bind, List.isEmpty_cons, Bool.false_eq_true, if_false]
  refine wpAny_bind (wpAny_newTextTuple ?_)
  have nt : H' s1.heap.objs.size = none := J.hok.fresh (Nat.le_refl _)
  have ex : ∀ b o, H' b = some o → upd H' s1.heap.objs.size (.tup [.int i]) b = some o := fun b o e => by rw [upd_ne (ne_of_none e nt)]; exact e
  have J2 : Inv X pins σ (upd H' s1.heap.objs.size (.tup [.int i])) { s1 with heap := s1.heap.push { cls := .type "tuple", data := .seq [v].toArray } } :=
    J.laid (t' := s1.toks) (fun b o e => Heap.get?_push_of_some _ e) (Nat.le_refl _) ⟨by show 1 ≤ sizeLine; decide, [v], .cons rv .nil, ⟨_, Heap.get?_push_size _ rfl, rfl, 0, rfl⟩⟩
  refine lam_tail (l := ⟨X.env.qual ++ "<lambda>", params, body, scope⟩) J2 TB hcode hm hu (hT.ext ex) (fun y hy e => J2.ok.has _ (hfree y hy e)) fun f c' H1 s' J3 x nf hf hc => ⟨.ref f, H1, J3, rfl, ?_⟩
  have n1 : H' f = none := NdefX.upd_none nf
  have x0 : ExtL T H' (upd H' s1.heap.objs.size (.tup [.int i])) := ⟨LamX.ExtN.of ex, fun b z => NdefX.upd_none z, hT.ext ex⟩
  refine h f c' (.ref s1.heap.objs.size) H1 (x0.trans x) n1 hf hc (.inr ⟨_, i, j, pc, hd1, rfl, x.ext _ _ upd_same fun _ z => by cases z⟩) fun t z => by cases z; exact nt
end
end Y
/-! ### a kept lambda is called -/
namespace Y
open PySem PySem.Spec PyProof.Rows L2
/-- the lambda's names: captured ones, globals, a parameter that is no name of the maker's -/
structure LamN (N : List Str) (sc scope : Scope) : Prop where
  kind : scope.kind = .function
  co : scope.isCoroutine = false
  gen : scope.isGenerator = false
  own : ∀ y ∈ scope.names, y.2 ≠ .cell
  par : ∀ y ∈ scope.names, y.2 = .local → y.1 ∉ N
  free : ∀ y ∈ scope.names, y.2 = .free → sc.names.lookup y.1 = some .cell ∨ sc.names.lookup y.1 = some .free
def lamNB (N : List Str) (sc scope : Scope) : Bool :=
  decide (scope.kind = .function) && (!scope.isCoroutine && (!scope.isGenerator && scope.names.all fun y => !decide (y.2 = .cell) && ((!decide (y.2 = .local) || !N.contains y.1) && (!decide (y.2 = .free) || (decide (sc.names.lookup y.1 = some .cell) || decide (sc.names.lookup y.1 = some .free))))))
theorem lamN_by {N : List Str} {sc scope : Scope} (h : lamNB N sc scope = true) : LamN N sc scope := by
  unfold lamNB at h
  simp only [Bool.and_eq_true, Bool.or_eq_true, Bool.not_eq_true', decide_eq_true_eq, decide_eq_false_iff_not, List.all_eq_true] at h
  obtain ⟨h1, h2, h3, h4⟩ := h
  refine ⟨h1, h2, h3, fun y hy => (h4 y hy).1, fun y hy e => ?_, fun y hy e => ?_⟩
  · rcases (h4 y hy).2.1 with z | z
    · exact absurd e z
    · intro hm; rw [List.contains_iff_mem.mpr hm] at z; cases z
  · rcases (h4 y hy).2.2 with z | z
    · exact absurd e z
    · exact z
/-- how a call without arguments binds -/
inductive BindL (l : LamI) : Prop
  | non (hd : l.ps.defaults = []) (h : ∀ (cl : List (Str × Addr)) (doc pm cdv ct : Value), bindArgs (PySem.W.kdv_fn "<lambda>" l.q l.ps (.expr l.bd) l.sc cl .none doc pm cdv ct) ⟨[], []⟩ = pure [])
  | dfl (x : Str) (hx : l.sc.names.lookup x = some .local) (hd : l.ps.defaults ≠ []) (h : ∀ (cl : List (Str × Addr)) (T : Addr) (doc pm cdv ct : Value), ∃ k, bindArgs (PySem.W.kdv_fn "<lambda>" l.q l.ps (.expr l.bd) l.sc cl (.ref T) doc pm cdv ct) ⟨[], []⟩ = seqItems? (.ref T) >>= k ∧ ∀ v : Value, k (some #[v]) = pure [(x, v)])
section
variable {X : Cx} {pins : List (Addr × Obj)} {σ : L2.St} {H HZ : Hp} {s s1 : Shared}
theorem lam_startO {A : Around} {outer : List Env} {E : XK} {scope : Scope} {f c' : Addr} {h₁ : Heap} {tk : Nat} {m : Str → Option Value} (I : Inv X pins σ H s) (L : LamN X.N X.env.scope scope) (e0 : Env0 X.prog X.w X.K X.mg X.base A outer s1 HZ) (hd : A.handled = none)
    (ck : ∀ y c, X.env.cells.lookup y = some c → HZ c = none ∧ ∀ v, s.heap.IsCell c v → s1.heap.IsCell c v) (hns : h₁.Ns s1.heap.objs.size m) (kp : ∀ b o, s1.heap.get? b = some o → h₁.get? b = some o) :
    Inv (LamX.lamCx X A outer s1 HZ E scope f c') [] σ HZ { s1 with heap := h₁, toks := tk } := by
  have has : ∀ y ∈ scope.names, y.2 = .free → ∃ c, X.env.cells.lookup y.1 = some c := fun y hy e => I.ok.has _ (L.free y hy e)
  have back : ∀ {y c}, (cloFrom X.env.cells scope.names []).lookup y = some c → X.env.cells.lookup y = some c := fun {y c} e => by
    rcases cloFrom_mem (PySem.mem_of_lookup e) with hm | ⟨h1, h2⟩
    · cases hm
    · obtain ⟨c1, hc⟩ := has _ h1 rfl
      have hc : X.env.cells.lookup y = some c1 := hc
      rw [hc] at h2
      rw [hc, h2]; rfl
  have forth : ∀ {y}, scope.names.lookup y = some .free → ∃ c, (cloFrom X.env.cells scope.names []).lookup y = some c := fun {y} hl => mem_lookup (cloFrom_has (cells := X.env.cells) (acc := []) (show (y, NameKind.free) ∈ scope.names from PySem.mem_of_lookup hl))
  have cellK : ∀ {y : Str} {c : Addr} {v : Option Value}, X.env.cells.lookup y = some c → s.heap.IsCell c v → h₁.IsCell c v := fun {y c v} e z => by
    obtain ⟨o, ho, hd⟩ := (ck y c e).2 v z
    exact ⟨o, kp _ _ ho, hd⟩
  have none_ : ∀ b : Addr, b ∉ (LamX.lamCx X A outer s1 HZ E scope f c').ex := fun b z => by cases (show b ∈ ([] : List Addr) from z)
  refine ⟨⟨e0.mod, L.kind, rfl, rfl, Nat.le_refl _, fun y z c e1 e2 => I.ok.inj y z c (back e1) (back e2), fun y hy => ?_, fun y c z _ => ?_, fun _ => hd, Around.frames_deeper e0.frames, .inr ⟨rfl, rfl⟩, fun b z => absurd z (none_ b), e0.bs, e0.bsz, fun b _ _ => none_ b, fun b z => absurd z (none_ b), e0.funs, e0.frf⟩,
    rfl, e0.bare, Un.kept kp, ⟨m, hns, fun i y v e1 e2 e3 => ?_⟩, fun y c e => ?_, e0.hok.fresh (Nat.le_refl _), fun y c e => (ck y c (back e)).1, (fun q hq => by cases (show q ∈ ([] : List (Addr × Obj)) from hq)), e0.hok.kept kp, I.len⟩
  · have hy : scope.names.lookup y = some .cell ∨ scope.names.lookup y = some .free := hy
    rcases hy with hy | hy
    · exact absurd rfl (L.own _ (PySem.mem_of_lookup hy))
    · exact forth hy
  · have z : false = true := z
    cases z
  · have e3 : Vis scope y := e3
    have e1 : X.N[i]? = some y := e1
    rcases e3 with k | k | k
    · exact absurd (List.mem_of_getElem? e1) (L.par _ (PySem.mem_of_lookup k) rfl)
    · exact absurd rfl (L.own _ (PySem.mem_of_lookup k))
    · obtain ⟨mx, hn, hl⟩ := I.loc
      have hvis : Vis X.env.scope y := (L.free _ (PySem.mem_of_lookup k) rfl).elim (fun k => .inr (.inl k)) fun k => .inr (.inr k)
      obtain ⟨w', r, q⟩ := hl i y v e1 e2 hvis
      obtain ⟨c2, h2⟩ := forth k
      have c1 := back h2
      refine ⟨w', r, .inr ⟨.inr k, c2, h2, ?_⟩⟩
      rcases q with ⟨k', _⟩ | ⟨_, c3, e', z⟩
      · have k' : X.env.scope.names.lookup y = some .local := k'
        rcases L.free _ (PySem.mem_of_lookup k) rfl with k2 | k2 <;> rw [show X.env.scope.names.lookup y = _ from k2] at k' <;> cases k'
      · rw [c1] at e'
        cases e'
        exact cellK c1 z
  · obtain ⟨w', z⟩ := I.cell y c (back e)
    exact ⟨w', cellK (back e) z⟩
/-- a(), in a def that got a kept lambda of the maker's frame X; Y: where that def was called -/
theorem pe_actO {Z0 : Cx} {sY : Shared} {HY : Hp} {CXg : CXT} {Eg : XK} {Ng : List Str} {qg : Str} {sg : Scope} {g f c' : Addr} {cdg dV : Value} {l : LamI} {k i : Nat} {a : Str} {pn : List (Addr × Obj)} {xe : Value → Shared → Prop} {W : WX} {E : XK} {tb : TE} {p1 p2 : Pos}
    (hp : Z0.prog = X.prog) (hw : Z0.w = X.w) (hK : Z0.K = X.K) (hmg : Z0.mg = X.mg) (hbs : Z0.base = X.base)
    (I : Inv X pins σ H s) (L : LamN X.N X.env.scope l.sc) (hq : l.q = X.env.qual ++ "<lambda>") (hY : ∀ y c, X.env.cells.lookup y = some c → HY c = none ∧ ∀ v, s.heap.IsCell c v → sY.heap.IsCell c v) (hB : BindL l)
    (tk : Takes ((cxOf CXg X.prog X.w X.K X.mg X.base Ng qg sg g cdg Z0.A Z0.stack sY HY Eg).tr pn xe) W) (hW : ∀ cls d σ' H', E cls d H' → W cls d σ' H') (hr : Room (k + 1) (Z0.A.deeper (envOfC qg sg sY.heap.objs.size g cdg)))
    (hbody : ∀ (A : Around) (outer : List Env) (s : Shared) (H : Hp), Room k (A.deeper (LamX.lamEnv X l.sc s.heap.objs.size f c')) → PE (LamX.lamCx X A outer s H E l.sc f c') l.bd tb)
    (hN : Ng[i]? = some a) (hv : Vis sg a) (hd : (a == ("__debug__" : Str)) = false := by decide) (hcd : (a == ("__classdict__" : Str)) = false := by decide) :
    PE ((cxOf CXg X.prog X.w X.K X.mg X.base Ng qg sg g cdg Z0.A Z0.stack sY HY Eg).tr pn xe) (.Call (.Name a p1) [] [] p2)
      (fun σZ HZ Q => σZ[i]? = some (some (.ref f)) ∧ HZ f = some (LamF X.env.cells f c' dV l) ∧ HZ c' = some (LamX.CodeO c' l.q) ∧ DflF HZ dV l.ps ∧ tb σ HZ Q) := by
  refine ⟨fun pinsZ sZ σZ HZ Q IZ ⟨hs, hF, hc, hD, ht⟩ => ?_⟩
  refine wpAny_Call_Name_kw (thn ((pe_var (pos := p1) (i := i) hN hv hd hcd).run pinsZ sZ σZ HZ (fun v H1 => v = .ref f ∧ H1 = HZ) IZ ⟨.ref f, hs, rfl, rfl⟩) fun u s1 ⟨v, H1, I1, r1, ev, eH⟩ => ?_)
  subst ev
  rw [eH] at I1
  obtain rfl : u = Value.ref f := r1
  obtain ⟨⟨doc, pm, ctv, of1⟩, _, _⟩ := I1.hok f _ hF
  refine PySem.W.callWith_F0 ⟨_, _, _, _, of1⟩ ?_
  obtain ⟨⟨oc, vs, t, hoc, hdc, hvc⟩, _, _⟩ := I1.hok c' _ hc
  have un : Un (frs Z0.stack) [] HY HZ sY.heap s1.heap := I1.base
  have ck : ∀ y c, X.env.cells.lookup y = some c → HZ c = none ∧ ∀ v, s.heap.IsCell c v → s1.heap.IsCell c v := fun y c e => by
    obtain ⟨n0, q0⟩ := hY y c e
    obtain ⟨v0, z0⟩ := I.cell y c e
    obtain ⟨o0, ho0, _⟩ := q0 v0 z0
    refine ⟨un.free c o0 ho0 n0 (by simp), fun v z => ?_⟩
    obtain ⟨o, ho, hdt⟩ := q0 v z
    obtain ⟨sl, q1⟩ := un.any ho n0 (by simp)
    exact ⟨_, q1, hdt⟩
  have hb : ∃ binds, BindsTo s1 (PySem.W.kdv_fn "<lambda>" l.q l.ps (.expr l.bd) l.sc (cloFrom X.env.cells l.sc.names []) dV doc pm (.ref c') ctv) ⟨[], []⟩ binds ∧ ∀ y ∈ binds, l.sc.names.lookup y.1 = some .local := by
    cases hB with
    | non h0 h =>
      rcases hD with ⟨_, rfl⟩ | ⟨T, i, j, p, e, _⟩
      · exact ⟨[], .of_eq (h _ _ _ _ _), fun y hy => by cases hy⟩
      · rw [h0] at e; cases e
    | dfl x hx h0 h =>
      rcases hD with ⟨e, _⟩ | ⟨T, i, j, p, e, rfl, hT⟩
      · exact absurd e h0
      · obtain ⟨_, its, hv, o, ho, _, n, hdt⟩ := I1.hok T _ hT
        obtain ⟨kk, b1, b2⟩ := h (cloFrom X.env.cells l.sc.names []) T doc pm (.ref c') ctv
        obtain ⟨v, rfl⟩ : ∃ v, its = [v] := by
          cases hv with
          | cons r t => cases t; exact ⟨_, rfl⟩
        exact ⟨[(x, v)], .of_defaults rfl ho hdt b1 (b2 v), fun y hy => by simp only [List.mem_singleton] at hy; rw [hy]; exact hx⟩
  obtain ⟨binds, hbd, hbl⟩ := hb
  have rc : codeAny (model X.prog X.w) (Z0.A.deeper (envOfC qg sg sY.heap.objs.size g cdg)) (.call (.ref f) ⟨[], []⟩) (CR (L2.CX X.prog X.w) (envOfC qg sg sY.heap.objs.size g cdg :: Z0.stack) X.prog X.w HZ s1 Q E) s1 := by
    refine PySem.W.kla_callFunE hr.depth of1 rfl L.co L.gen rfl ⟨c', oc, vs, t, rfl, hoc, hdc, hvc⟩ (hbd _ _ _ _ ?_)
    refine wpAny_newFunctionEnv (fun y hy => L.own y hy) hbl (fun h₁ hns hsb => ⟨I1.nolimit.fresh _ hsb, ?_⟩) L.kind
    have kp : ∀ b o, s1.heap.get? b = some o → h₁.get? b = some o := fun b o e => hsb.extBut b o (Nat.ne_of_lt (Heap.lt_size e)) (Heap.get?_push_of_some _ e)
    rw [hq]
    show codeAny _ _ (.expr l.bd (LamX.lamEnv X l.sc s1.heap.objs.size f c')) _ _
    have J : Inv (LamX.lamCx X (Z0.A.deeper (envOfC qg sg sY.heap.objs.size g cdg)) (envOfC qg sg sY.heap.objs.size g cdg :: Z0.stack) s1 HZ E l.sc f c') [] σ HZ { s1 with heap := h₁, toks := s1.toks + binds.length } :=
      lam_startO I L I1.env0 hr.hd ck hns kp
    refine PySem.W.kla_codeExpr (wpAny_mono ((hbody _ _ s1 HZ (hr.deeper _)).run [] _ _ HZ Q J ht) (fun v s' hq => ?_) fun e s' hq => hq)
    obtain ⟨w', H', J', rv, q⟩ := hq
    exact ⟨w', H', J'.os, J'.bare, J'.base, J'.hok, rv, q⟩
  have hx : Passes (L2.CX X.prog X.w) ((cxOf CXg X.prog X.w X.K X.mg X.base Ng qg sg g cdg Z0.A Z0.stack sY HY Eg).tr pn xe) E := passes_call tk hW
  refine wpAny_call (codeAny_mono rc fun r s' hq => ?_)
  cases r with
  | error e => exact hx pinsZ σZ HZ s1 e s' I1 hq
  | ok fl =>
    cases fl with
    | ret u => exact I1.after hq
    | next => exact False.elim hq
    | brk => exact False.elim hq
    | cont => exact False.elim hq
end
end Y
/-! ### [refused(ask) for ask in asks], where asks is a list of lambdas -/
namespace Y
open PySem PySem.Spec PyProof.Rows L2
theorem pe_weak {X : Cx} {e : Expr} {t t' : TE} (p : PE X e t) (h : ∀ σ H Q, t' σ H Q → t σ H Q) : PE X e t' := ⟨fun pins s σ H Q I q => p.run pins s σ H Q I (h σ H Q q)⟩
/-- what the def that tells an error makes of a reading -/
theorem ref_run {g : G} {K : PySem.W.Frag} {cl : List (List Value × Str)} {tbl : List (Str × Str)} (hcl : ∀ c F, tbl.lookup c = some F → ∃ C, g.cls c = some C ∧ XrK K C F ∧ hits K (.ref C) F cl) {fb : EM} {S : SL} {w : Bx} {σ : L2.St} {F : FH} {H : Hp} {Q : VK} (R : Rel g F w S σ H) (h : Post g F H Q E0 (eRef tbl fb S w))
    {ex : Hp → Prop} (hex : ∀ p o, H p = none → ex (upd H p o)) : TTref K cl (fun E H' Q' => ex H' ∧ tSem g (kE E) fb σ H' Q') H Q := by
  intro q nq
  refine ⟨hex q _ nq, ?_⟩
  have x2 := Ext.lay (o := .tup [.str "", .non]) R.sub R.bx nq
  refine ⟨F.upd q (.tup [.str "", .non]), S, w, R.ext x2, ?_⟩
  unfold eRef at h
  cases hf : fb S w with
  | bad => rw [hf] at h; exact h
  | ok d w1 =>
    rw [hf] at h
    intro v H' F' x3 r
    exact ⟨.ref q, rfl, h (.ref q) H' F' (x2.trans x3) (.tup (.inl (.inl (x3.ff.fz _ _ upd_same))) (.cons (.str "") (.cons .non .nil)))⟩
  | err c fs w1 =>
    rw [hf] at h
    intro cl' a vs H' F' x3 n kc l r
    unfold refD at h
    simp only at h
    cases ht : tbl.lookup c with
    | none => rw [ht] at h; exact h.elim
    | some Fn =>
      rw [ht] at h
      simp only at h
      cases h1 : fs.lookup ("tag" : Str) with
      | none => rw [h1] at h; exact h.elim
      | some t =>
        cases h2 : refF fs Fn with
        | none => rw [h1, h2] at h; exact h.elim
        | some z =>
          rw [h1, h2] at h
          obtain ⟨C, e1, e2, e3⟩ := hcl c Fn ht
          rw [kc] at e1; cases e1
          obtain ⟨tv, t1, t2⟩ := r.lookup h1
          have hz : ∃ fv, fldV vs Fn fv ∧ DR g F' fv z := by
            unfold refF at h2
            unfold fldV
            split at h2
            · rename_i hF
              cases h2
              exact ⟨.non, by rw [if_pos hF], .non⟩
            · rename_i hF
              obtain ⟨fv, z1, z2⟩ := r.lookup h2
              exact ⟨fv, by rw [if_neg hF]; exact z1, z2⟩
          obtain ⟨fv, z1, z2⟩ := hz
          refine ⟨Fn, e3, cl', rfl, e2, a, vs, tv, fv, rfl, l, t1, z1, fun p2' np => ?_⟩
          have x4 := Ext.lay (o := .tup [tv, fv]) x3.sub x3.bx np
          exact h (.ref p2') _ _ ((x2.trans x3).trans x4) (.tup (.inl (.inl upd_same)) (.cons (t2.mono x4.ff) (.cons (z2.mono x4.ff) .nil)))
/-- a lambda of the frame X and its meaning -/
structure LamD (X : Cx) (g : G) (k : Nat) (l : LamI) (fb : EM) : Prop where
  q : l.q = X.env.qual ++ "<lambda>"
  n : LamN X.N X.env.scope l.sc
  b : BindL l
  run : ∀ (A : Around) (outer : List Env) (s : Shared) (H : Hp) (E : XK) (f c' : Addr), Room k (A.deeper (LamX.lamEnv X l.sc s.heap.objs.size f c')) → DE (LamX.lamCx X A outer s H E l.sc f c') g (kE E) l.bd fb
inductive LamDs (X : Cx) (g : G) (k : Nat) : List LamI → List EM → Prop
  | nil : LamDs X g k [] []
  | cons {l : LamI} {fb : EM} {ls : List LamI} {fbs : List EM} (h : LamD X g k l fb) (r : LamDs X g k ls fbs) : LamDs X g k (l :: ls) (fb :: fbs)
theorem LamDs.get {X : Cx} {g : G} {k : Nat} : ∀ {ls : List LamI} {fbs : List EM} {i : Nat} {l : LamI}, LamDs X g k ls fbs → ls[i]? = some l → ∃ fb, fbs[i]? = some fb ∧ LamD X g k l fb
  | _, _, _, _, .nil, e => by simp at e
  | _, _, 0, _, .cons h _, e => by simp at e; subst e; exact ⟨_, rfl, h⟩
  | _, _, i + 1, _, .cons _ r, e => by
    obtain ⟨fb, h1, h2⟩ := r.get (i := i) (by simpa using e)
    exact ⟨fb, by simpa using h1, h2⟩
theorem LamDs.len {X : Cx} {g : G} {k : Nat} : ∀ {ls : List LamI} {fbs : List EM}, LamDs X g k ls fbs → ls.length = fbs.length
  | _, _, .nil => rfl
  | _, _, .cons _ r => congrArg (· + 1) r.len
theorem LamsOk.get {g : G} {F : FH} {H : Hp} : ∀ {vs : List V} {ls : List LamI} {i : Nat} {v : V}, LamsOk g F H vs ls → vs[i]? = some v → ∃ f c' dV l, v = .ref f ∧ ls[i]? = some l ∧ F f = some (LamF g.cl f c' dV l) ∧ DflF F dV l.ps ∧ H c' = some (LamX.CodeO c' l.q)
  | _, _, _, _, .nil, e => by simp at e
  | _, _, 0, _, .cons hf hd nb na hc _, e => by simp at e; exact ⟨_, _, _, _, e.symm, rfl, hf, hd, hc⟩
  | _, _, i + 1, _, .cons _ _ _ _ _ r, e => by
    obtain ⟨f, c', dV, l, h1, h2, h3⟩ := r.get (i := i) (by simpa using e)
    exact ⟨f, c', dV, l, h1, by simpa using h2, h3⟩
theorem LamsOk.len {g : G} {F : FH} {H : Hp} : ∀ {vs : List V} {ls : List LamI}, LamsOk g F H vs ls → vs.length = ls.length
  | _, _, .nil => rfl
  | _, _, .cons _ _ _ _ _ r => congrArg (· + 1) r.len
/-- what each lambda of the list is told, in order -/
def refsM (tbl : List (Str × Str)) : List EM → AM
  | [] => aNil
  | fb :: r => aCons (eRef tbl fb) (refsM tbl r)
open Classical in
noncomputable def oRefs (j iy : Nat) (ls : List LamI) (tbl : List (Str × Str)) (fbs : List EM) : AM := fun S w => if S[j]? = some (some (.lam ls)) ∧ fbs.length ≤ 1000 ∧ iy < S.length then refsM tbl fbs S w else .bad
def teRefs (X : Cx) (g : G) (cl : List (List Value × Str)) (k iy : Nat) (ls : List LamI) (σ : L2.St) : TE := fun σ' H' Q => ∃ l fb f c' dV, LamD X g k l fb ∧ σ'[iy]? = some (some (.ref f)) ∧ H' f = some (LamF X.env.cells f c' dV l) ∧ H' c' = some (LamX.CodeO c' (X.env.qual ++ "<lambda>")) ∧ DflF H' dV l.ps ∧
  TTref X.K cl (fun E HZ Q' => (HZ f = some (LamF X.env.cells f c' dV l) ∧ DflF HZ dV l.ps) ∧ tSem g (kE E) fb σ HZ Q') H' Q
section
variable {X : Cx} {g : G} {E : EK} {x y z : Str} {tbl : List (Str × Str)}
theorem pe_refAsk {k iy : Nat} {ls : List LamI} {pins : List (Addr × Obj)} {σ : L2.St} {s : Shared} {H : Hp} {scope : Scope} {ce : Env} {fp : List Addr} {ga : Addr} {ask : Str} {pg : Arguments} {sg : Scope} {bg : List Stmt} {dV0 kV doc pm cdv ct oc : Value} {an od : Option Addr} {osl : Array (Option Value)} {Ng : List Str} {cl : List (List Value × Str)} {p p1 pos : Pos}
    (I : Inv X pins σ H s) (hfp : ∀ b ∈ fp, FpOk X pins H b) (hm : X.mg x = some (.ref ga)) (hk : PySem.W.keepIn X.K (.ref ga) = true) (lk : X.K.lookup ga = some ⟨oc, od, .func (PySem.W.fnOf x x pg bg sg dV0 kV doc pm an cdv ct), osl⟩) (hcg : PySem.W.codeIn X.K cdv x = true) (hb : L2.Binds X.K (PySem.W.fnOf x x pg bg sg dV0 kV doc pm an cdv ct) [ask] [])
    (Sg : FnScope Ng [ask] sg) (hNg : Ng[0]? = some ask) (hva : Vis sg ask) (hG : LamX.GivesTo (X.blk s H scope ce fp) Ng x sg ga cdv bg ask (X.env.qual ++ "<lambda>") (TTref X.K cl)) (hr : Room (k + 2) X.A) (hg : Gl (X.blk s H scope ce fp) x) (hN : X.N[iy]? = some y) (hv : Vis ce.scope y)
    (hst : starEach [.Name y p1] ce = (false, eval (.Name y p1) ce) :: starEach [] ce) (hdb : (x == ("__debug__" : Str)) = false) (hd : (ask == ("__debug__" : Str)) = false) (hcd : (ask == ("__classdict__" : Str)) = false) (hd1 : (y == ("__debug__" : Str)) = false) (hcd1 : (y == ("__classdict__" : Str)) = false) :
    PE (X.blk s H scope ce fp) (.Call (.Name x p) [.Name y p1] [] pos) (teRefs X g cl k iy ls σ) := by
  refine ⟨fun pb sb σb Hb Q Ib ⟨l, fb, f, c', dV, hL, hσ, hF, hC, hD, hTT⟩ => ?_⟩
  refine wpAny_Call_Name_kw (ld_glob Ib hg hm (PySem.W.callWith_K (h₀ := X.base) Ib.ok.mod.kin hk ?_ (by rw [hst]) (by rfl)) hdb)
  show wpAny _ _ (spliced (backTo pos (starEach [.Name y p1] ce))) _ _ sb
  rw [hst]
  show wpAny _ _ (spliced ((false, eval (.Name y p1) ce) :: backTo pos (starEach [] ce))) _ _ sb
  refine Calls.spliced_cons (thn ((pe_var (X := X.blk s H scope ce fp) (pos := p1) hN hv hd1 hcd1).run pb sb σb Hb (fun v H1 => v = .ref f ∧ H1 = Hb) Ib ⟨.ref f, hσ, rfl, rfl⟩) fun u s1 ⟨v, H1, I1, r1, ev, eH⟩ => ?_)
  subst ev
  rw [eH] at I1
  obtain rfl : u = Value.ref f := r1
  refine Calls.spliced_nil ⟨I1.kIn, ?_⟩
  have un : Un (frs X.stack) fp H Hb s.heap s1.heap := I1.base
  have cells : ∀ y c, X.env.cells.lookup y = some c → Hb c = none ∧ ∀ v, s.heap.IsCell c v → s1.heap.IsCell c v := fun y c e => by
    have nfp : c ∉ fp := fun hb => (hfp c hb).2.2.2.2.1 y c e rfl
    obtain ⟨v0, o0, ho0, _⟩ := I.cell y c e
    refine ⟨un.free c o0 ho0 (I.freeC y c e) nfp, fun v ⟨o, ho, hdt⟩ => ?_⟩
    obtain ⟨sl, q1⟩ := un.any ho (I.freeC y c e) nfp
    exact ⟨_, q1, hdt⟩
  have out : codeAny (model X.prog X.w) X.A (.call (.ref ga) ⟨[.ref f], []⟩) (CR C8.CX0 X.stack X.prog X.w Hb s1 Q C8.E0) s1 :=
    LamX.run_ofS (N := Ng) (ps := [ask]) (us := [.ref f]) (vs := [.ref f]) lk hcg Sg hr I1.env0 (hb s1 [.ref f] I1.kIn rfl) (.cons rfl .nil) rfl fun hr' => by
      obtain ⟨t', ht', hq'⟩ := hG f c' s1 Hb Q _ (fun W pn xe E q1 q2 tk hW => pe_weak (pe_actO (X := X) (Z0 := X.blk s H scope ce fp) (i := 0) (dV := dV) (l := l) (c' := c') rfl rfl rfl rfl rfl I hL.n hL.q cells hL.b tk hW hr' (fun A outer s H hr2 => (hL.run A outer s H E f c' hr2).pe) hNg hva hd hcd) fun σZ HZ Q' ⟨h1, h2, h3⟩ => ⟨h1, h3.1.1, by rw [hL.q]; exact h2, h3.1.2, h3.2⟩) hC hTT
      exact ⟨t', ht'.nox, hq'⟩
  refine wpAny_call (codeAny_mono out fun r s2 hq => ?_)
  match r, hq with
  | .ok (.ret u), hq => exact I1.after hq
  | .error e, hq => exact (show False from hq).elim
  | .ok .next, hq => exact False.elim hq
  | .ok .brk, hq => exact False.elim hq
  | .ok .cont, hq => exact False.elim hq
end
end Y
namespace Y
open PySem PySem.Spec PyProof.Rows L2
theorem eRef_noerr {tbl : List (Str × Str)} {fb : EM} {S : SL} {w : Bx} {c : Str} {fl : List (Str × D)} {w1 : Bx} : eRef tbl fb S w ≠ .err c fl w1 := by
  unfold eRef refD
  intro h
  split at h
  · cases h
  · split at h
    · split at h <;> cases h
    · cases h
  · cases h
theorem refsM_cons {tbl : List (Str × Str)} {fb : EM} {r : List EM} {S : SL} {w wN : Bx} {rest : List D} (h : refsM tbl (fb :: r) S w = .ok rest wN) : ∃ d w1 ds, eRef tbl fb S w = .ok d w1 ∧ refsM tbl r S w1 = .ok ds wN ∧ rest = d :: ds := by
  unfold refsM aCons at h
  cases h1 : eRef tbl fb S w with
  | ok d w1 =>
    rw [h1, R.bind_ok] at h
    cases h2 : refsM tbl r S w1 with
    | ok ds w2 => rw [h2, R.bind_ok] at h; cases h; exact ⟨d, w1, ds, rfl, h2, rfl⟩
    | err c fl w2 => rw [h2] at h; cases h
    | bad => rw [h2] at h; cases h
  | err c fl w1 => rw [h1] at h; cases h
  | bad => rw [h1] at h; cases h
theorem refsM_noerr {tbl : List (Str × Str)} {S : SL} {c : Str} {fl : List (Str × D)} {w1 : Bx} : ∀ {fbs : List EM} {w : Bx}, refsM tbl fbs S w ≠ .err c fl w1
  | [], w, h => by cases h
  | fb :: r, w, h => by
    unfold refsM aCons at h
    cases h1 : eRef tbl fb S w with
    | ok d w2 =>
      rw [h1, R.bind_ok] at h
      cases h2 : refsM tbl r S w2 with
      | ok ds w3 => rw [h2, R.bind_ok] at h; cases h
      | err c' fl' w3 => exact refsM_noerr h2
      | bad => rw [h2] at h; cases h
    | err c' fl' w2 => exact eRef_noerr h1
    | bad => rw [h1] at h; cases h
section
variable {X : Cx} {g : G} {E : EK} {x y z : Str} {tbl : List (Str × Str)}
theorem do_refs (j iy : Nat) {k : Nat} {ls : List LamI} {fbs : List EM} {scope : Scope} {p p1 p2 p3 p4 pos : Pos} (own : List (Str × Nat)) (hK : g.K = X.K) (hcl : g.cl = X.env.cells) (M : RefK X.K X.mg g.cls x tbl) (hls : LamDs X g k ls fbs) (hr : Room (k + 2) X.A) (hcalm : X.calm = true) (hnd : X.N.Nodup) (bok : BlkOk X.N X.env.scope scope own)
    (hj : X.N[j]? = some z) (hvz : Vis X.env.scope z) (hN : X.N[iy]? = some y) (hiy : iy ∈ own.map (·.2)) (hg : ∀ (s : Shared) (H : Hp) (C : Addr) (cl : List (Str × Addr)) (fp : List Addr), Gl (X.blk s H scope (compEnvC scope cl C X.env) fp) x)
    (hv : ∀ (C : Addr) (cl : List (Str × Addr)), (compEnvC scope cl C X.env).scope.names.lookup y = some .local) (hst : ∀ (C : Addr) (cl : List (Str × Addr)), starEach [.Name y p1] (compEnvC scope cl C X.env) = (false, eval (.Name y p1) (compEnvC scope cl C X.env)) :: starEach [] (compEnvC scope cl C X.env))
    (hfold : ∀ v, foldedSetIterable (.Name z p4) X.env v = pure v := by intro _; rfl) (hdb : (x == ("__debug__" : Str)) = false := by decide) (hd1 : (y == ("__debug__" : Str)) = false := by decide) (hcd1 : (y == ("__classdict__" : Str)) = false := by decide) (hd2 : (z == ("__debug__" : Str)) = false := by decide) (hcd2 : (z == ("__classdict__" : Str)) = false := by decide) :
    DO X g E (.ListComp (.Call (.Name x p) [.Name y p1] [] p2) [⟨.Name y p3, .Name z p4, [], 0⟩] scope pos) (oRefs j iy ls tbl fbs) := by
  obtain ⟨ga, ask, told, en, pg, sg, dV0, kV, doc, pm, cdv, ct, oc, an, od, osl, hd0, hds, cl0, j1, j2, k1, q1, q2, q3, q4, q5, q6, q7, q8, q9, q10, q11, hm, hk, lk, hcg, hb, Sg, la, lt, le, hall, hR, htb⟩ := M.ex
  have hall : ∀ y ∈ [ask, told, en], (y == ("__debug__" : Str)) = false ∧ (y == ("__classdict__" : Str)) = false := fun y hy => by
    have := List.all_eq_true.mp hall y hy
    rw [Bool.and_eq_true, Bool.not_eq_true', Bool.not_eq_true'] at this
    exact this
  have da := hall ask (by simp)
  have dt := hall told (by simp)
  have de := hall en (by simp)
  refine ⟨_, pe_lcI (wi := iList X.K (tVar j)) (g := gName iy) (te := teRefs X g cl0 k iy ls) hcalm hnd (pi_list (pe_var hj hvz hd2 hcd2)) bok (fun s H C cl fp => pg_name (X := X.blk s H scope (compEnvC scope cl C X.env) fp) hnd hN (.inl (hv C cl)) (.inr (hv C cl)))
    (fun pins σ s H C cl fp I hfp => pe_refAsk I hfp hm hk lk hcg hb Sg rfl (.inl la) (ref_gives (X := X.blk s H scope (compEnvC scope cl C X.env) fp) Sg.nd lt le dt.1 dt.2 de.1 de.2 hR) hr (hg s H C cl fp) hN (.inl (hv C cl)) (hst C cl) hdb da.1 da.2 hd1 hcd1) hfold, fun σ H Q F S w R h => ?_⟩
  unfold oRefs at h
  by_cases hS : S[j]? = some (some (.lam ls)) ∧ fbs.length ≤ 1000 ∧ iy < S.length
  · rw [if_pos hS] at h
    obtain ⟨hS, h1000, hiS⟩ := hS
    obtain ⟨v, e1, pl, vs, rfl, hFp, hLs⟩ := R.sl j _ hS
    refine ⟨.ref pl, e1, pl, rfl, ⟨vs, SqL.of (R.sub _ _ hFp)⟩, fun D hD => ?_⟩
    cases hM : refsM tbl fbs S w with
    | bad => rw [hM] at h; exact h.elim
    | err c fl w1 => exact absurd hM refsM_noerr
    | ok all wN =>
      rw [hM] at h
      have nbD : D ≠ g.bx := not_box R.bx hD
      have hlen := hls.len
      have hlv := hLs.len
      refine lc_list (K := X.K) (a := pl) (xs := vs) (fun i H' => ∃ F' w' done rest acc, Ext g F H F' H' w' ∧ F'.free D ∧ H' D = some (.lst acc) ∧ DRs g F' acc done ∧ refsM tbl (fbs.drop i) S w' = .ok rest wN ∧ done ++ rest = all ∧ done.length = i) ?_ ?_ ?_ ?_
      · exact ⟨F, w, [], all, [], Ext.own R.sub R.bx hD, free_of R.sub R.bx hD, upd_same, .nil, hM, rfl, rfl⟩
      · rintro i H' _ ⟨F', w', done, rest, acc, xE, _⟩
        exact SqL.of (xE.sub _ _ (xE.ff.fz _ _ hFp))
      · rintro i v H' hx ⟨F', w', done, rest, acc, xE, fD, hHD, rA, hM', hdr, hdl⟩
        obtain ⟨f, c', dV, l, rfl, hl, hf, hdf, hc⟩ := (hLs.ext xE).get hx
        obtain ⟨fb, hfb, LD⟩ := hls.get hl
        have hdrop : fbs.drop i = fb :: fbs.drop (i + 1) := by
          obtain ⟨hlt, he⟩ := List.getElem?_eq_some_iff.mp hfb
          rw [List.drop_eq_getElem_cons hlt, he]
        rw [hdrop] at hM'
        obtain ⟨d, w1, ds, hE, hM2, rfl⟩ := refsM_cons hM'
        refine ⟨by rw [wipe_set hiy]; apply List.ext_getElem?; intro n; rw [wipe_get, wipe_get]; by_cases hn : n ∈ own.map (·.2) <;> simp [hn, wipe_length], ?_⟩
        unfold tYes
        simp only [if_true]
        have hi : iy < σ.length := by rw [← R.len]; exact hiS
        have hf' : H' f = some (LamF X.env.cells f c' dV l) := by rw [← hcl]; exact xE.sub _ _ hf
        refine ⟨l, fb, f, c', dV, LD, List.getElem?_set_self (by rw [wipe_length]; exact hi), hf', by rw [← LD.q]; exact hc, hdf.mono xE.sub, ?_⟩
        refine ref_run (K := X.K) htb (R.ext xE) ?_ (fun q o nq => ⟨by rw [upd_ne (ne_of_none hf' nq)]; exact hf', (hdf.mono xE.sub).mono fun a u e => by rw [upd_ne (ne_of_none e nq)]; exact e⟩)
        rw [hE]
        intro u H4 F4 x4 r4
        have h4D : H4 D = some (.lst acc) := x4.hh D _ nbD fD.2 (fun _ z => by cases z) hHD
        have al : acc.length = done.length := rA.length
        refine ⟨acc, h4D, ?_, F4, w1, done ++ [d], ds, acc ++ [u], Ext.mut (xE.trans x4) hD (x4.free fD hHD) nbD h4D (.inl ⟨_, rfl⟩), x4.free fD hHD, upd_same, (rA.mono x4.ff).append (.cons r4 .nil), hM2, by rw [← hdr]; simp, by simp [hdl]⟩
        have : i < vs.length := (List.getElem?_eq_some_iff.mp hx).1
        rw [al, hdl, ← sizeN_line]
        show i < 16777216
        omega
      · rintro H' ⟨F', w', done, rest, acc, xE, fD, hHD, rA, hM', hdr, hdl⟩
        rw [List.drop_eq_nil_of_le (by omega)] at hM'
        cases hM'
        rw [List.append_nil] at hdr
        subst hdr
        exact h D acc H' F' xE hD fD hHD rA
  · rw [if_neg hS] at h; exact h.elim
end
end Y
/-! ### asks = [lambda: .., lambda x=0: ..] -/
namespace Y
open PySem PySem.Spec PyProof.Rows L2
section
variable {g : G} {F : FH} {H : Hp} {w : Bx}
theorem BxOk.notext (b : BxOk g F w H) {a : Addr} {φ : Heap → Prop} (h : H a = some (.ext φ)) : a ≠ g.bx ∧ ∀ i, F.ad i ≠ some a := by
  refine ⟨fun e => ?_, fun i e => ?_⟩
  · obtain ⟨c, h1, _⟩ := b.at_
    rw [e, h1] at h; cases h
  · have hl := b.adl i a e
    obtain ⟨a', e1, _, _, e4⟩ := b.cel i _ (List.getElem?_eq_getElem hl)
    rw [e] at e1; cases e1
    revert e4
    cases w.st[i] with
    | lst ds => rintro ⟨vs, z, _⟩; rw [h] at z; cases z
    | dct ds => rintro ⟨vs, z, _⟩; rw [h] at z; cases z
    | obj c ds => rintro ⟨C, dx, vs, z, _⟩; rw [h] at z; cases z
end
def tLams (T : List (Addr × Str)) (cl : List (Str × Addr)) : List LamI → TA
  | [] => tNil
  | l :: r => tCons (tLamV T cl l) (tLams T cl r)
inductive LamEs (X : Cx) (T : List (Addr × Str)) : List Expr → List LamI → Prop
  | nil : LamEs X T [] []
  | cons {e : Expr} {l : LamI} {es : List Expr} {ls : List LamI} (h : PE X e (tLamV T X.env.cells l)) (hs : starEach (e :: es) X.env = (false, eval e X.env) :: starEach es X.env) (r : LamEs X T es ls) : LamEs X T (e :: es) (l :: ls)
theorem pa_lams {X : Cx} {T : List (Addr × Str)} {es : List Expr} {ls : List LamI} (h : LamEs X T es ls) : PA X es (tLams T X.env.cells ls) := by
  induction h with
  | nil => exact pa_nil
  | cons h hs r ih => exact pa_cons h ih hs
theorem lams_run {g : G} {σ : L2.St} : ∀ (ls : List LamI) {F : FH} {H : Hp} {w : Bx} {Q : List V → Hp → Prop}, Same F H → BxOk g F w H → (∀ vs H' F', Ext g F H F' H' w → LamsOk g F' H' vs ls → Q vs H') → tLams g.cls.tb g.cl ls σ H Q
  | [], F, H, w, Q, s, b, h => h [] H F (Ext.refl s b) .nil
  | l :: ls, F, H, w, Q, s, b, h => by
    refine ⟨b.tabs, fun f c' dV H1 eL nf hf hc hd ht => ?_⟩
    have x1 := Ext.lamL s b eL
    have x2 := Ext.freeze x1 nf (free_of s b nf) hf (not_box b nf) lamF_ne
    have key : ∀ F2 : FH, Ext g F H F2 H1 w → F2 f = some (LamF g.cl f c' dV l) → DflF F2 dV l.ps → tLams g.cls.tb g.cl ls σ H1 (fun vs H2 => Q (.ref f :: vs) H2) := fun F2 x3 hf2 hd2 => by
      obtain ⟨nb, na⟩ := x3.bx.notext (show H1 c' = some (.ext _) from hc)
      refine lams_run ls x3.sub x3.bx fun vs H' F' x' ok => h (.ref f :: vs) H' F' (x3.trans x') (.cons (x'.ff.fz _ _ hf2) (hd2.mono x'.ff.fz) nb (fun i z => ?_) (x'.hh c' _ nb na LamX.codeO_ne hc) ok)
      rcases x'.nad i c' z with q | q
      · exact na i q
      · rw [hc] at q; cases q
    rcases hd with ⟨h1, h2⟩ | ⟨t, i, j, p, h1, rfl, h3⟩
    · exact key _ x2 upd_same (.inl ⟨h1, h2⟩)
    · have ntf : t ≠ f := fun e => by rw [e, hf] at h3; unfold LamF at h3; cases h3
      have nt := ht t rfl
      have x3 := Ext.freeze x2 nt ((free_of s b nt).upd ntf) h3 (not_box b nt)
      refine key _ x3 ?_ (.inr ⟨t, i, j, p, h1, rfl, upd_same⟩)
      show L2.upd (L2.upd F.fz f _) t _ f = _
      rw [upd_ne ntf.symm, upd_same]
theorem Rel.setL {g : G} {F : FH} {H : Hp} {w : Bx} {S : SL} {σ : L2.St} {v : V} {ls : List LamI} (R : Rel g F w S σ H) (i : Nat) (r : SvOk g F H (.lam ls) v) : Rel g F w (S.set i (some (.lam ls))) (σ.set i (some v)) H := by
  refine ⟨R.sub, R.bx, by rw [List.length_set, List.length_set]; exact R.len, fun j s hs => ?_, fun j k ds ds2 u h1 h2 h3 h4 => ?_⟩
  · rw [List.getElem?_set] at hs ⊢
    by_cases e : i = j
    · rw [if_pos e] at hs ⊢
      by_cases hl : j < S.length
      · rw [if_pos (e ▸ hl)] at hs; cases hs
        rw [if_pos (by rw [e, ← R.len]; exact hl)]
        exact ⟨v, rfl, r⟩
      · rw [if_neg (e ▸ hl)] at hs; cases hs
    · rw [if_neg e] at hs ⊢; exact R.sl j s hs
  · rw [List.getElem?_set] at h1 h2 h3 h4
    by_cases e : i = j
    · rw [if_pos e] at h1; split at h1 <;> cases h1
    · by_cases e2 : i = k
      · rw [if_pos e2] at h2; split at h2 <;> cases h2
      · rw [if_neg e] at h1 h3; rw [if_neg e2] at h2 h4; exact R.inj j k ds ds2 u h1 h2 h3 h4
section
variable {X : Cx} {g : G} {E : EK} {F0 : FH} {H0 : Hp} {B : FH}
theorem RelS.setL {F : FH} {H : Hp} {w : Bx} {S : SL} {σ : L2.St} {v : V} {ls : List LamI} (R : RelS g F0 H0 B F w S σ H) (i : Nat) (r : SvOk g F H (.lam ls) v) : RelS g F0 H0 B F w (S.set i (some (.lam ls))) (σ.set i (some v)) H := by
  refine ⟨R.rel.setL i r, R.ext, R.fl, fun j ds p h1 h2 => ?_⟩
  rw [List.getElem?_set] at h1 h2
  by_cases e : i = j
  · rw [if_pos e] at h1; split at h1 <;> cases h1
  · rw [if_neg e] at h1 h2; exact R.fr j ds p h1 h2
def sLam (i : Nat) (ls : List LamI) : SM := fun S w => if ls.length ≤ 1000 then .nx (S.set i (some (.lam ls))) w else .bad
theorem ds_lams (i : Nat) {x : Str} {es : List Expr} {ls ls' : List LamI} {p p2 pos : Pos} (hls : ls = ls') (hcl : g.cl = X.env.cells) (he : LamEs X g.cls.tb es ls') (hN : X.N.Nodup) (hi : X.N[i]? = some x := by rfl) (hx : Loc X.env.scope x := by first | exact Or.inl rfl | exact Or.inr rfl) (hs : swapsWith (.List es p) (some (.Name x p2)) pos.line X.env = pure false := by rfl)
    (hf : X.fn x = true ∨ X.env.scope.names.lookup x = some .local := by first | exact .inl rfl | exact .inr rfl) : DS X g E F0 H0 (.Assign [.Name x p2] (.List es p) pos) (sLam i ls) := by
  subst hls
  refine ⟨_, ps_set hN hi hx (pe_lst (pa_lams he)) hs hf, fun N σ H F S w B R h => ?_⟩
  unfold sLam at h
  by_cases hl : ls.length ≤ 1000
  · rw [if_pos hl] at h
    show tLams g.cls.tb X.env.cells ls σ H _
    rw [← hcl]
    refine lams_run ls R.rel.sub R.rel.bx fun vs H' F' x' ok => ⟨?_, fun q nq => ?_⟩
    · rw [ok.len, ← sizeN_line]; show ls.length ≤ 16777216; omega
    · have x2 := Ext.lay (o := .lst vs) x'.sub x'.bx nq
      exact h _ _ _ ((R.ext' (x'.trans x2)).setL i ⟨q, vs, rfl, upd_same, ok.ext x2⟩)
  · rw [if_neg hl] at h; exact h.elim
end
/-! ### where the lambdas stand in a text -/
def subB : Stmt → Nat → List Stmt
  | .For _ _ b _ _, _ => b
  | .While _ b _ _, _ => b
  | .If _ a _ _, 0 => a
  | .If _ _ b _, _ => b
  | .Try b _ _ _ _, _ => b
  | _, _ => []
def stAt : List Stmt → List Nat → Stmt
  | ss, [i] => ss.getD i (.Pass ⟨0, 0, 0, 0⟩)
  | ss, i :: b :: r => stAt (subB (ss.getD i (.Pass ⟨0, 0, 0, 0⟩)) b) r
  | _, [] => .Pass ⟨0, 0, 0, 0⟩
def lamsOf (q : Str) : Stmt → List LamI
  | .Assign _ (.List es _) _ => es.filterMap fun e => match e with
    | .Lambda p b s _ => some ⟨q, p, b, s⟩
    | _ => none
  | _ => []
theorem x_refs {j iy : Nat} {ls : List LamI} {tbl : List (Str × Str)} {fbs : List EM} {S : SL} {w : Bx} {r : R (List D)} (h1 : S[j]? = some (some (.lam ls))) (h2 : fbs.length ≤ 1000) (h3 : iy < S.length) (h : refsM tbl fbs S w = r) : oRefs j iy ls tbl fbs S w = r := by
  unfold oRefs; rw [if_pos ⟨h1, h2, h3⟩]; exact h
theorem x_lam {i : Nat} {ls : List LamI} {S : SL} {w : Bx} (h : ls.length ≤ 1000) : sLam i ls S w = .nx (S.set i (some (.lam ls))) w := by unfold sLam; rw [if_pos h]
theorem g_lam {i : Nat} {ls : List LamI} {S S1 : SL} {w : Bx} (h : ls.length ≤ 1000) (h2 : S.set i (some (.lam ls)) = S1) : sLam i ls S w = .nx S1 w := by rw [← h2]; unfold sLam; rw [if_pos h]
theorem x_rfN {tbl : List (Str × Str)} {S : SL} {w : Bx} : refsM tbl [] S w = .ok [] w := rfl
theorem x_rfC {tbl : List (Str × Str)} {fb : EM} {r : List EM} {S : SL} {w w1 w2 : Bx} {d : D} {ds : List D} (ha : eRef tbl fb S w = .ok d w1) (hr : refsM tbl r S w1 = .ok ds w2) : refsM tbl (fb :: r) S w = .ok (d :: ds) w2 := by
  unfold refsM aCons; rw [ha, R.bind_ok, hr]; rfl
end Y
namespace Y
open PySem PySem.Spec PyProof.Rows L2
/-! ### errors, in the plain -/
section
variable {S S1 : SL} {w w1 w2 : Bx} {c f T : Str} {fs : List (Str × D)} {d z : D} {fe fa fb : EM} {ds : List D} {m k : SM}
theorem x_raise (h : fe S w = .ok d w1) : sRaise c f T fe S w = .err S c [("tag", .str T), (f, d)] w1 := by unfold sRaise; rw [h]; rfl
theorem x_runIE {n l : Nat} {body : SM} {c' : Str} (hl : ds.length + 1 = n) (h : body (startI l c' ds) w = .err S1 c fs w1) : runI c' n l body ds w = .err c fs w1 := by unfold runI; rw [if_pos hl, h]; rfl
theorem x_makeE {n : Nat → Bool} {mi : List D → Bx → R (List (Str × D))} {am : AM} {c' : Str} (ha : am S w = .ok ds w1) (hn : n ds.length = true) (hm : mi ds w1 = .err c fs w2) : eMake c' n mi am S w = .err c fs w2 := by
  unfold eMake; rw [ha, R.bind_ok, if_pos hn, hm]; rfl
theorem x_retE (h : fe S w = .err c fs w1) : sRet fe S w = .err S c fs w1 := by unfold sRet; rw [h]; rfl
theorem x_setE {i : Nat} (h : fe S w = .err c fs w1) : sSet i fe S w = .err S c fs w1 := by unfold sSet; rw [h]; rfl
theorem x_refE {tbl : List (Str × Str)} {F : Str} {t v : D} (h : fb S w = .err c fs w1) (h1 : tbl.lookup c = some F) (h2 : fs.lookup ("tag" : Str) = some t) (h3 : refF fs F = some v) : eRef tbl fb S w = .ok (.tup [t, v]) w1 := by
  unfold eRef refD; rw [h]; simp only [h1, h2, h3]
theorem x_refO {tbl : List (Str × Str)} (h : fb S w = .ok d w1) : eRef tbl fb S w = .ok (.tup [.str "", .non]) w1 := by unfold eRef refD; rw [h]
theorem x_ifTE (h : m S w1 = .err S1 c fs w2) {t : TM} (ht : t S w = .ok true w1) : sIf t m k S w = .err S1 c fs w2 := by unfold sIf; rw [ht]; exact h
/-- what a raise of the program's own errors carries -/
theorem ref_own {T f : Str} {d : D} (hf : f ≠ "") (ht : f ≠ "tag") : refF [("tag", .str T), (f, d)] f = some d := by
  unfold refF; rw [if_neg hf]
  have e1 : (f == ("tag" : Str)) = false := by simpa using ht
  have e2 : (f == f) = true := by simp
  simp [List.lookup_cons, e1, e2]
theorem tag_own {T f : Str} {d : D} : ([("tag", .str T), (f, d)] : List (Str × D)).lookup ("tag" : Str) = some (.str T) := by simp [List.lookup_cons]
end
end Y
namespace Y
open PySem PySem.Spec PyProof.Rows L2
/-! ### == of data without bools -/
mutual
def rig : D → Bool
  | .non => true
  | .int _ => true
  | .str _ => true
  | .lst ds => rigs ds
  | .tup ds => rigs ds
  | _ => false
def rigs : List D → Bool
  | [] => true
  | d :: ds => rig d && rigs ds
end
mutual
theorem eqv_rig : ∀ (d e : D) (p q : PyData), rig d = true → rig e = true → toPy d = some p → toPy e = some q → (PyData.eqv p q = true ↔ d = e)
  | .non, e, p, q, _, he, hp, hq => by
    rw [toPy] at hp; cases hp
    cases e <;> simp only [rig] at he <;> first | cases he | skip
    all_goals rw [toPy] at hq
    · cases hq; simp [PyData.eqv]
    · cases hq; simp [PyData.eqv]
    · cases hq; simp [PyData.eqv]
    · obtain ⟨ps, _, rfl⟩ := Option.map_eq_some_iff.mp hq; simp [PyData.eqv]
    · obtain ⟨ps, _, rfl⟩ := Option.map_eq_some_iff.mp hq; simp [PyData.eqv]
  | .int i, e, p, q, _, he, hp, hq => by
    rw [toPy] at hp; cases hp
    cases e <;> simp only [rig] at he <;> first | cases he | skip
    all_goals rw [toPy] at hq
    · cases hq; simp [PyData.eqv]
    · cases hq; simp [PyData.eqv]
    · cases hq; simp [PyData.eqv]
    · obtain ⟨ps, _, rfl⟩ := Option.map_eq_some_iff.mp hq; simp [PyData.eqv]
    · obtain ⟨ps, _, rfl⟩ := Option.map_eq_some_iff.mp hq; simp [PyData.eqv]
  | .str i, e, p, q, _, he, hp, hq => by
    rw [toPy] at hp; cases hp
    cases e <;> simp only [rig] at he <;> first | cases he | skip
    all_goals rw [toPy] at hq
    · cases hq; simp [PyData.eqv]
    · cases hq; simp [PyData.eqv]
    · cases hq; simp [PyData.eqv]
    · obtain ⟨ps, _, rfl⟩ := Option.map_eq_some_iff.mp hq; simp [PyData.eqv]
    · obtain ⟨ps, _, rfl⟩ := Option.map_eq_some_iff.mp hq; simp [PyData.eqv]
  | .lst ds, e, p, q, hd, he, hp, hq => by
    rw [toPy] at hp
    obtain ⟨xs, ex, rfl⟩ := Option.map_eq_some_iff.mp hp
    cases e <;> simp only [rig] at he <;> first | cases he | skip
    all_goals rw [toPy] at hq
    · cases hq; simp [PyData.eqv]
    · cases hq; simp [PyData.eqv]
    · cases hq; simp [PyData.eqv]
    · obtain ⟨ps, e1, rfl⟩ := Option.map_eq_some_iff.mp hq
      have := eqvs_rig ds _ xs ps (by simpa [rig] using hd) he ex e1
      simp [PyData.eqv, this]
    · obtain ⟨ps, _, rfl⟩ := Option.map_eq_some_iff.mp hq; simp [PyData.eqv]
  | .tup ds, e, p, q, hd, he, hp, hq => by
    rw [toPy] at hp
    obtain ⟨xs, ex, rfl⟩ := Option.map_eq_some_iff.mp hp
    cases e <;> simp only [rig] at he <;> first | cases he | skip
    all_goals rw [toPy] at hq
    · cases hq; simp [PyData.eqv]
    · cases hq; simp [PyData.eqv]
    · cases hq; simp [PyData.eqv]
    · obtain ⟨ps, _, rfl⟩ := Option.map_eq_some_iff.mp hq; simp [PyData.eqv]
    · obtain ⟨ps, e1, rfl⟩ := Option.map_eq_some_iff.mp hq
      have := eqvs_rig ds _ xs ps (by simpa [rig] using hd) he ex e1
      simp [PyData.eqv, this]
  | .bl _, _, _, _, hd, _, _, _ => by simp [rig] at hd
  | .box, _, _, _, hd, _, _, _ => by simp [rig] at hd
  | .obj _ _, _, _, _, hd, _, _, _ => by simp [rig] at hd
  | .dct _, _, _, _, hd, _, _, _ => by simp [rig] at hd
  | .cel _, _, _, _, hd, _, _, _ => by simp [rig] at hd
theorem eqvs_rig : ∀ (ds es : List D) (ps qs : List PyData), rigs ds = true → rigs es = true → toPys ds = some ps → toPys es = some qs → (PyData.eqvAll ps qs = true ↔ ds = es)
  | [], [], ps, qs, _, _, hp, hq => by rw [toPys] at hp hq; cases hp; cases hq; simp [PyData.eqvAll]
  | [], e :: es, ps, qs, _, _, hp, hq => by
    rw [toPys] at hp; rw [toPys] at hq; cases hp
    obtain ⟨y, _, h2⟩ := Option.bind_eq_some_iff.mp hq
    obtain ⟨ys, _, h3⟩ := Option.bind_eq_some_iff.mp h2
    cases h3; simp [PyData.eqvAll]
  | d :: ds, [], ps, qs, _, _, hp, hq => by
    rw [toPys] at hp; rw [toPys] at hq; cases hq
    obtain ⟨y, _, h2⟩ := Option.bind_eq_some_iff.mp hp
    obtain ⟨ys, _, h3⟩ := Option.bind_eq_some_iff.mp h2
    cases h3; simp [PyData.eqvAll]
  | d :: ds, e :: es, ps, qs, hd, he, hp, hq => by
    rw [toPys] at hp hq
    obtain ⟨x, x1, h2⟩ := Option.bind_eq_some_iff.mp hp
    obtain ⟨xs, x2, h3⟩ := Option.bind_eq_some_iff.mp h2
    cases h3
    obtain ⟨y, y1, h2⟩ := Option.bind_eq_some_iff.mp hq
    obtain ⟨ys, y2, h3⟩ := Option.bind_eq_some_iff.mp h2
    cases h3
    rw [rigs, Bool.and_eq_true] at hd he
    have a := eqv_rig d e x y hd.1 he.1 x1 y1
    have b := eqvs_rig ds es xs ys hd.2 he.2 x2 y2
    simp [PyData.eqvAll, a, b]
end
theorem eqB_rig {n m : Nat} {d e : D} (hd : niceN n d) (he : niceN m e) (hn : n ≤ 64 := by decide) (hm : m ≤ 64 := by decide) (rd : rig d = true) (re : rig e = true) : ∃ b : Bool, eqB d e = some b ∧ (b = true ↔ d = e) := by
  obtain ⟨p, p1, p2⟩ := nice_shp hd hn
  obtain ⟨q, q1, q2⟩ := nice_shp he hm
  have key := eqv_rig d e p q rd re p1 q1
  have gen : (shp d).bind (fun p => (shp e).bind fun q => some (PyData.eqv p q)) = some (PyData.eqv p q) := by rw [p2, q2]; rfl
  unfold eqB
  split
  · exact ⟨_, rfl, by simp⟩
  · exact ⟨_, rfl, by simp⟩
  · exact ⟨_, rfl, by simp⟩
  · exact ⟨_, gen, key⟩
theorem mEq_rig {n m : Nat} {d e : D} (hd : niceN n d) (he : niceN m e) (hn : n ≤ 64 := by decide) (hm : m ≤ 64 := by decide) (rd : rig d = true) (re : rig e = true) : ∃ b : Bool, mEq d e = some (.bl b) ∧ mNe d e = some (.bl !b) ∧ (b = true ↔ d = e) := by
  obtain ⟨b, h1, h2⟩ := eqB_rig hd he hn hm rd re
  exact ⟨b, by unfold mEq; rw [h1]; rfl, by unfold mNe; rw [h1]; rfl, h2⟩
theorem rigs_map {α : Type} {f : α → D} {l : List α} (h : ∀ x ∈ l, rig (f x) = true) : rigs (l.map f) = true := by
  induction l with
  | nil => rfl
  | cons a l ih => rw [List.map_cons, rigs, h a (by simp), ih fun x hx => h x (by simp [hx])]; rfl
theorem rig_pc (p : Pc) : rig (pcD p) = true := rfl
/-! ### a loop that ends with an error -/
theorem x_forNE0 {gm : GM} {body : SM} {c : Str} {fs : List (Str × D)} {we : Bx} (f : Nat → D) (I : Nat → SL → Bx → Prop) (n : Nat) (hs : ∀ i S w, i < n → I i S w → ∃ S1 S2 w2, gm (f i) S = some S1 ∧ body S1 w = .nx S2 w2 ∧ I (i + 1) S2 w2) (hE : ∀ S w, I n S w → ∃ S1 S2, gm (f n) S = some S1 ∧ body S1 w = .err S2 c fs we) :
    ∀ (k i j : Nat) (S : SL) (w : Bx), i + k = n → I i S w → ∃ S2, forLoop gm body ((List.range' i (k + 1 + j)).map f) S w = .err S2 c fs we
  | 0, i, j, S, w, e, h => by
    obtain ⟨S1, S2, h1, h2⟩ := hE S w (by rw [← e]; exact h)
    refine ⟨S2, ?_⟩
    have e' : i = n := by omega
    subst e'
    rw [show 0 + 1 + j = j + 1 by omega, List.range'_succ, List.map_cons]
    show (match gm (f i) S with | none => RS.bad | some S1 => _) = _
    rw [h1]
    simp only [h2]
  | k + 1, i, j, S, w, e, h => by
    obtain ⟨S1, S2, w2, h1, h2, h3⟩ := hs i S w (by omega) h
    obtain ⟨S3, h4⟩ := x_forNE0 f I n hs hE k (i + 1) j S2 w2 (by omega) h3
    refine ⟨S3, ?_⟩
    rw [show k + 1 + 1 + j = (k + 1 + j) + 1 by omega, List.range'_succ, List.map_cons]
    show (match gm (f i) S with | none => RS.bad | some S1 => _) = _
    rw [h1]
    simp only [h2]
    exact h4
theorem x_forNE {gm : GM} {body : SM} {c : Str} {fs : List (Str × D)} {we : Bx} (f : Nat → D) (I : Nat → SL → Bx → Prop) (n m : Nat) (hm : n < m) {S : SL} {w : Bx} (h0 : I 0 S w) (hs : ∀ i S w, i < n → I i S w → ∃ S1 S2 w2, gm (f i) S = some S1 ∧ body S1 w = .nx S2 w2 ∧ I (i + 1) S2 w2) (hE : ∀ S w, I n S w → ∃ S1 S2, gm (f n) S = some S1 ∧ body S1 w = .err S2 c fs we) :
    ∃ S2, forLoop gm body ((List.range m).map f) S w = .err S2 c fs we := by
  obtain ⟨S2, h⟩ := x_forNE0 f I n hs hE n 0 (m - n - 1) S w (by omega) h0
  rw [show n + 1 + (m - n - 1) = m by omega] at h
  rw [List.range_eq_range']
  exact ⟨S2, h⟩
end Y
namespace Y
open PySem PySem.Spec PyProof.Rows L2
/-! ### a loop that folds -/
theorem x_forF {β τ : Type} {gm : GM} {body : SM} {w : Bx} (f : β → D) (st : τ → SL → Prop) (step : τ → β → τ) : ∀ (l : List β), (∀ x ∈ l, ∀ o S, st o S → ∃ S1 S2, gm (f x) S = some S1 ∧ (body S1 w = .nx S2 w ∨ body S1 w = .ct S2 w) ∧ st (step o x) S2) →
    ∀ o S, st o S → ∃ S2, forLoop gm body (l.map f) S w = .nx S2 w ∧ st (l.foldl step o) S2
  | [], _, o, S, h => ⟨S, rfl, h⟩
  | x :: l, hs, o, S, h => by
    obtain ⟨S1, S2, h1, h2, h3⟩ := hs x (List.mem_cons_self ..) o S h
    obtain ⟨S3, h4, h5⟩ := x_forF f st step l (fun y hy => hs y (List.mem_cons_of_mem _ hy)) (step o x) S2 h3
    refine ⟨S3, ?_, h5⟩
    rw [List.map_cons]
    show (match gm (f x) S with | none => RS.bad | some S1 => _) = _
    rw [h1]
    rcases h2 with h2 | h2 <;> simp only [h2] <;> exact h4
/-! ### the order of rows -/
def lt2 (x y : List Nat) : Prop := x.length < y.length ∨ (x.length = y.length ∧ x < y)
theorem lexlt_irrefl (x : List Nat) : ¬ x < x := List.lt_irrefl x
theorem lt2_irrefl (x : List Nat) : ¬ lt2 x x := fun h => h.elim (fun h => Nat.lt_irrefl _ h) fun h => lexlt_irrefl _ h.2
theorem lt2_trans {x y z : List Nat} (h : lt2 x y) (k : lt2 y z) : lt2 x z := by
  rcases h with h | ⟨h, h'⟩ <;> rcases k with k | ⟨k, k'⟩
  · exact .inl (by omega)
  · exact .inl (by omega)
  · exact .inl (by omega)
  · exact .inr ⟨by omega, List.lt_trans h' k'⟩
theorem lex_tri : ∀ (x y : List Nat), x.length = y.length → x < y ∨ x = y ∨ y < x
  | [], [], _ => .inr (.inl rfl)
  | a :: x, b :: y, h => by
    rcases Nat.lt_trichotomy a b with k | k | k
    · exact .inl (List.Lex.rel k)
    · subst k
      rcases lex_tri x y (by simpa using h) with k | k | k
      · exact .inl (List.Lex.cons k)
      · exact .inr (.inl (by rw [k]))
      · exact .inr (.inr (List.Lex.cons k))
    · exact .inr (.inr (List.Lex.rel k))
theorem lt2_tri (x y : List Nat) : lt2 x y ∨ x = y ∨ lt2 y x := by
  rcases Nat.lt_trichotomy x.length y.length with h | h | h
  · exact .inl (.inl h)
  · rcases lex_tri x y h with k | k | k
    · exact .inl (.inr ⟨h, k⟩)
    · exact .inr (.inl k)
    · exact .inr (.inr (.inr ⟨h.symm, k⟩))
  · exact .inr (.inr (.inl h))
theorem lex_app : ∀ {x y : List Nat}, x.length = y.length → x < y → ∀ (z w : List Nat), x ++ z < y ++ w
  | [], [], _, h, _, _ => absurd h (lexlt_irrefl _)
  | a :: x, b :: y, hl, h, z, w => by
    cases h with
    | rel k => exact List.Lex.rel k
    | cons k => exact List.Lex.cons (lex_app (by simpa using hl) k z w)
theorem lex_pre : ∀ (x : List Nat) {z w : List Nat}, z < w → x ++ z < x ++ w
  | [], _, _, h => h
  | a :: x, _, _, h => List.Lex.cons (lex_pre x h)
theorem cnt98 {l : List Nat} (h : ∀ c ∈ l, AB c) (h0 : l.count 97 = 0) : l = List.replicate l.length 98 := by
  induction l with
  | nil => rfl
  | cons c l ih =>
    have hc : c = 98 := by
      rcases h c (by simp) with rfl | rfl
      · simp at h0
      · rfl
    subst hc
    rw [List.length_cons, List.replicate_succ, ← ih (fun x hx => h x (by simp [hx])) (by simpa using h0)]
theorem sorted_le {u : List Nat} (h : ∀ c ∈ u, AB c) : smp (u.count 97) (u.count 98) = u ∨ smp (u.count 97) (u.count 98) < u := by
  induction u with
  | nil => exact .inl rfl
  | cons c u ih =>
    have hu : ∀ x ∈ u, AB x := fun x hx => h x (by simp [hx])
    rcases h c (by simp) with rfl | rfl
    · have e : smp ((97 :: u).count 97) ((97 :: u).count 98) = 97 :: smp (u.count 97) (u.count 98) := by simp [smp, List.replicate_succ]
      rw [e]
      rcases ih hu with k | k
      · exact .inl (by rw [k])
      · exact .inr (List.Lex.cons k)
    · by_cases h0 : u.count 97 = 0
      · refine .inl ?_
        have hl := ab_count hu
        have e := cnt98 hu h0
        have e1 : (98 :: u).count 97 = 0 := by simp [h0]
        have e2 : (98 :: u).count 98 = u.length + 1 := by simp; omega
        rw [e1, e2]
        simp only [smp, List.replicate_zero, List.nil_append, List.replicate_succ]
        rw [← e]
      · refine .inr ?_
        obtain ⟨n, hn⟩ : ∃ n, u.count 97 = n + 1 := ⟨u.count 97 - 1, by omega⟩
        have e1 : (98 :: u).count 97 = n + 1 := by simp [hn]
        rw [e1]
        simp only [smp, List.replicate_succ, List.cons_append]
        exact List.Lex.rel (by decide)
def smpR (p q c r s : Nat) : List Nat := smp p q ++ c :: smp r s
theorem smpR_len (p q c r s : Nat) : (smpR p q c r s).length = p + q + r + s + 1 := by simp [smpR, smp_len]; omega
theorem smpR_ab {c : Nat} (hc : AB c) (p q r s : Nat) : ∀ x ∈ smpR p q c r s, AB x := fun x hx => by
  rcases List.mem_append.mp hx with h | h
  · exact smp_ab _ _ x h
  · rcases List.mem_cons.mp h with rfl | h
    · exact hc
    · exact smp_ab _ _ x h
/-- the sample of a row stands ahead of it, or is it -/
theorem smpR_le {u v : List Nat} {c R : Nat} (hu : ∀ x ∈ u, AB x) (hv : ∀ x ∈ v, AB x) : smpR (min (u.count 97) R) (min (u.count 98) R) c (min (v.count 97) R) (min (v.count 98) R) = u ++ c :: v ∨ lt2 (smpR (min (u.count 97) R) (min (u.count 98) R) c (min (v.count 97) R) (min (v.count 98) R)) (u ++ c :: v) := by
  have lu := ab_count hu
  have lv := ab_count hv
  have hl := smpR_len (min (u.count 97) R) (min (u.count 98) R) c (min (v.count 97) R) (min (v.count 98) R)
  have hL : (u ++ c :: v).length = u.length + v.length + 1 := by simp; omega
  by_cases hn : (smpR (min (u.count 97) R) (min (u.count 98) R) c (min (v.count 97) R) (min (v.count 98) R)).length < (u ++ c :: v).length
  · exact .inr (.inl hn)
  · have a1 : min (u.count 97) R = u.count 97 := by omega
    have a2 : min (u.count 98) R = u.count 98 := by omega
    have a3 : min (v.count 97) R = v.count 97 := by omega
    have a4 : min (v.count 98) R = v.count 98 := by omega
    rw [a1, a2, a3, a4] at hl ⊢
    unfold smpR at hl ⊢
    have q1 : (smp (u.count 97) (u.count 98)).length = u.length := by rw [smp_len]; omega
    rcases sorted_le hu with k | k
    · rw [k]
      rcases sorted_le hv with k2 | k2
      · exact .inl (by rw [k2])
      · exact .inr (.inr ⟨by simp [smp_len]; omega, lex_pre u (List.Lex.cons k2)⟩)
    · exact .inr (.inr ⟨by rw [hl, hL]; omega, lex_app q1 k _ _⟩)
/-! ### conflicts of two scripts -/
def CfAt (a b : List Ed) (l : List Nat) (i : Nat) : Prop := Cl (runT (stillT l) a) (runT (stillT l) b) i
def Cf (a b : List Ed) (l : List Nat) : Prop := ∃ i, i < l.length ∧ CfAt a b l i
theorem cf_local {a b : List Ed} (ha : ∀ e ∈ a, Ed12 e) (hb : ∀ e ∈ b, Ed12 e) {R : Nat} (h1 : a.length + 1 ≤ R) (h2 : b.length + 1 ≤ R) {u v u' v' : List Nat} (c : Nat) (hu : Agree R u u') (hv : Agree R v v') : CfAt a b (u ++ c :: v) u.length ↔ CfAt a b (u' ++ c :: v') u'.length := by
  have p1 := loc_piece ha c (hu.mono h1) (hv.mono h1)
  have p2 := loc_piece hb c (hu.mono h2) (hv.mono h2)
  have s1 : ∀ (u v : List Nat), (runT (stillT (u ++ c :: v)) a).src = u ++ c :: v := fun u v => (run_ok a (stillT (u ++ c :: v)) (still_ok _) fun e h => (ha e h).1).2.2
  have g1 : ∀ (u v : List Nat), (u ++ c :: v).getD u.length 0 = c := fun u v => by simp
  unfold CfAt Cl
  rw [p1, p2, s1, s1, g1, g1]
/-- an item of the search -/
structure It5 where
  p : Nat
  q : Nat
  r : Nat
  s : Nat
  c : Nat
def It5.row (i : It5) : List Nat := smpR i.p i.q i.c i.r i.s
def It5.cf (a b : List Ed) (i : It5) : Prop := CfAt a b i.row (i.p + i.q)
open Classical in
noncomputable def stepB (a b : List Ed) (o : Option (List Nat)) (i : It5) : Option (List Nat) := match o with
  | some s => if lt2 i.row s then (if i.cf a b then some i.row else o) else o
  | none => if i.cf a b then some i.row else none
structure Best (a b : List Ed) (A : List It5) (o : Option (List Nat)) : Prop where
  no : o = none → ∀ i ∈ A, ¬ i.cf a b
  yes : ∀ s, o = some s → (∃ i ∈ A, i.cf a b ∧ s = i.row) ∧ ∀ i ∈ A, i.cf a b → ¬ lt2 i.row s
theorem best_step {a b : List Ed} {A : List It5} {o : Option (List Nat)} (h : Best a b A o) (i : It5) : Best a b (A ++ [i]) (stepB a b o i) := by
  have mem : ∀ {j : It5}, j ∈ A ++ [i] → j ∈ A ∨ j = i := fun {j} hj => by
    rcases List.mem_append.mp hj with k | k
    · exact .inl k
    · exact .inr (List.mem_singleton.mp k)
  unfold stepB
  cases o with
  | none =>
    simp only
    by_cases hc : i.cf a b
    · rw [if_pos hc]
      refine ⟨fun z => (nomatch z), fun s hs => ?_⟩
      cases hs
      refine ⟨⟨i, by simp, hc, rfl⟩, fun j hj hcj => ?_⟩
      rcases mem hj with k | k
      · exact absurd hcj (h.no rfl j k)
      · subst k; exact lt2_irrefl _
    · rw [if_neg hc]
      refine ⟨fun _ j hj => ?_, fun s hs => (nomatch hs)⟩
      rcases mem hj with k | k
      · exact h.no rfl j k
      · subst k; exact hc
  | some s =>
    simp only
    obtain ⟨⟨j0, m0, c0, r0⟩, mn⟩ := h.yes s rfl
    have keep : (∀ hc : i.cf a b, ¬ lt2 i.row s) → Best a b (A ++ [i]) (some s) := fun hk => ⟨fun z => (nomatch z), fun s' hs => by
      cases hs
      refine ⟨⟨j0, List.mem_append_left _ m0, c0, r0⟩, fun j hj hcj => ?_⟩
      rcases mem hj with k | k
      · exact mn j k hcj
      · subst k; exact hk hcj⟩
    by_cases hl : lt2 i.row s
    · rw [if_pos hl]
      by_cases hc : i.cf a b
      · rw [if_pos hc]
        refine ⟨fun z => (nomatch z), fun s' hs => ?_⟩
        cases hs
        refine ⟨⟨i, by simp, hc, rfl⟩, fun j hj hcj k => ?_⟩
        rcases mem hj with m | m
        · exact mn j m hcj (lt2_trans k hl)
        · subst m; exact lt2_irrefl _ k
      · rw [if_neg hc]
        exact keep fun z => absurd z hc
    · rw [if_neg hl]
      exact keep fun _ => hl
theorem best_fold {a b : List Ed} : ∀ (l A : List It5) (o : Option (List Nat)), Best a b A o → Best a b (A ++ l) (l.foldl (stepB a b) o)
  | [], A, o, h => by rw [List.append_nil]; exact h
  | i :: l, A, o, h => by
    have := best_fold l (A ++ [i]) _ (best_step h i)
    rw [List.append_assoc] at this
    exact this
theorem best0 {a b : List Ed} : Best a b [] none := ⟨fun _ _ h => (nomatch h), fun _ h => (nomatch h)⟩
def pairs (R : Nat) : List (Nat × Nat) := (List.range (R + 1)).flatMap fun i => (List.range (R + 1)).map fun j => (i, j)
theorem mem_pairs {R i j : Nat} : (i, j) ∈ pairs R ↔ i ≤ R ∧ j ≤ R := by
  unfold pairs
  simp only [List.mem_flatMap, List.mem_map, List.mem_range, Prod.mk.injEq]
  constructor
  · rintro ⟨x, h1, y, h2, rfl, rfl⟩; omega
  · rintro ⟨h1, h2⟩; exact ⟨i, by omega, j, by omega, rfl, rfl⟩
def items (R : Nat) : List It5 := (pairs R).flatMap fun x => (pairs R).flatMap fun y => [97, 98].map fun c => ⟨x.1, x.2, y.1, y.2, c⟩
theorem mem_items {R : Nat} {i : It5} : i ∈ items R ↔ i.p ≤ R ∧ i.q ≤ R ∧ i.r ≤ R ∧ i.s ≤ R ∧ AB i.c := by
  unfold items
  simp only [List.mem_flatMap, List.mem_map]
  constructor
  · rintro ⟨⟨x1, x2⟩, hx, ⟨y1, y2⟩, hy, c, hc, rfl⟩
    have h1 := mem_pairs.mp hx
    have h2 := mem_pairs.mp hy
    simp only [List.mem_cons, List.not_mem_nil, or_false] at hc
    exact ⟨h1.1, h1.2, h2.1, h2.2, hc⟩
  · rintro ⟨h1, h2, h3, h4, h5⟩
    exact ⟨(i.p, i.q), mem_pairs.mpr ⟨h1, h2⟩, (i.r, i.s), mem_pairs.mpr ⟨h3, h4⟩, i.c, by simpa [AB] using h5, rfl⟩
noncomputable def confO (a b : List Ed) (R : Nat) : Option (List Nat) := (items R).foldl (stepB a b) none
theorem confO_best (a b : List Ed) (R : Nat) : Best a b (items R) (confO a b R) := by
  have := best_fold (a := a) (b := b) (items R) [] none best0
  rw [List.nil_append] at this
  exact this
theorem split5 {l : List Nat} {i : Nat} (h : i < l.length) : ∃ u c v, l = u ++ c :: v ∧ u.length = i := ⟨l.take i, l[i], l.drop (i + 1), by rw [List.getElem_cons_drop, List.take_append_drop], by rw [List.length_take]; omega⟩
theorem conf_item {a b : List Ed} (ha : ∀ e ∈ a, Ed12 e) (hb : ∀ e ∈ b, Ed12 e) {R : Nat} (h1 : a.length + 1 ≤ R) (h2 : b.length + 1 ≤ R) {l : List Nat} (hl : ∀ c ∈ l, AB c) {i : Nat} (hi : i < l.length) (hc : CfAt a b l i) : ∃ j ∈ items R, j.cf a b ∧ (j.row = l ∨ lt2 j.row l) := by
  obtain ⟨u, c, v, rfl, rfl⟩ := split5 hi
  have hu : ∀ x ∈ u, AB x := fun x hx => hl x (by simp [hx])
  have hv : ∀ x ∈ v, AB x := fun x hx => hl x (by simp [hx])
  have hcc : AB c := hl c (by simp)
  refine ⟨⟨min (u.count 97) R, min (u.count 98) R, min (v.count 97) R, min (v.count 98) R, c⟩, mem_items.mpr ⟨by show min _ _ ≤ _; omega, by show min _ _ ≤ _; omega, by show min _ _ ≤ _; omega, by show min _ _ ≤ _; omega, hcc⟩, ?_, smpR_le hu hv⟩
  have k := (cf_local ha hb h1 h2 (u := u) (v := v) (u' := smp (min (u.count 97) R) (min (u.count 98) R)) (v' := smp (min (v.count 97) R) (min (v.count 98) R)) c (agree_smp hu (by omega) (by omega)) (agree_smp hv (by omega) (by omega))).mp hc
  rw [smp_len] at k
  exact k
theorem item_cf {a b : List Ed} {j : It5} (h : j.cf a b) : Cf a b j.row := ⟨j.p + j.q, by unfold It5.row; rw [smpR_len]; omega, h⟩
theorem confO_none {a b : List Ed} (ha : ∀ e ∈ a, Ed12 e) (hb : ∀ e ∈ b, Ed12 e) {R : Nat} (h1 : a.length + 1 ≤ R) (h2 : b.length + 1 ≤ R) (h : confO a b R = none) {l : List Nat} (hl : ∀ c ∈ l, AB c) : ¬ Cf a b l := fun ⟨i, hi, hc⟩ => by
  obtain ⟨j, m, k, _⟩ := conf_item ha hb h1 h2 hl hi hc
  exact (confO_best a b R).no h j m k
theorem confO_some {a b : List Ed} (ha : ∀ e ∈ a, Ed12 e) (hb : ∀ e ∈ b, Ed12 e) {R : Nat} (h1 : a.length + 1 ≤ R) (h2 : b.length + 1 ≤ R) {s : List Nat} (h : confO a b R = some s) : Cf a b s ∧ (∀ c ∈ s, AB c) ∧ s.length ≤ 4 * R + 1 ∧ ∀ l : List Nat, (∀ c ∈ l, AB c) → Cf a b l → ¬ lt2 l s := by
  obtain ⟨⟨j, m, k, rfl⟩, mn⟩ := (confO_best a b R).yes s h
  have hm := mem_items.mp m
  refine ⟨item_cf k, smpR_ab hm.2.2.2.2 _ _ _ _, by unfold It5.row; rw [smpR_len]; omega, fun l hl ⟨i, hi, hc⟩ z => ?_⟩
  obtain ⟨j2, m2, k2, o⟩ := conf_item ha hb h1 h2 hl hi hc
  rcases o with o | o
  · exact mn j2 m2 k2 (o ▸ z)
  · exact mn j2 m2 k2 (lt2_trans o z)
theorem cf_symm {a b : List Ed} (ha : ∀ e ∈ a, EdOk e) (hb : ∀ e ∈ b, EdOk e) (l : List Nat) (i : Nat) : CfAt a b l i ↔ CfAt b a l i := by
  have s1 := (run_ok a (stillT l) (still_ok _) ha).2.2
  have s2 := (run_ok b (stillT l) (still_ok _) hb).2.2
  unfold CfAt Cl
  rw [s1, s2]
  constructor <;> (rintro ⟨x, y⟩; exact ⟨x.symm, y.symm⟩)
theorem confO_symm {a b : List Ed} (ha : ∀ e ∈ a, EdOk e) (hb : ∀ e ∈ b, EdOk e) (R : Nat) : confO a b R = confO b a R := by
  have e : stepB a b = stepB b a := by
    funext o i
    have q : i.cf a b = i.cf b a := propext (cf_symm ha hb _ _)
    unfold stepB
    rw [q]
  unfold confO
  rw [e]
end Y
namespace Y
open PySem PySem.Spec PyProof.Rows L2
theorem x_lc2T {β : Type} {gm gm1 : GM} {fi1 : AM} {tm1 : TM} {em : EM} {S : SL} {vs1 : List Nat} (f : β → D) (z : β → List D) : ∀ (l : List β) (w : Bx), (∀ x ∈ l, ∃ S1 es, gm (f x) S = some S1 ∧ fi1 S1 w = .ok es w ∧ es.length ≤ 4000 ∧ lcLoop gm1 tm1 em (wipeS (datS S1) vs1) es w = .ok (z x) w) →
    lc2Loop gm tYesM fi1 gm1 tm1 em S vs1 (l.map f) w = .ok (l.flatMap z) w
  | [], w, _ => rfl
  | x :: l, w, h => by
    obtain ⟨S1, es, h1, h2, h3, h4⟩ := h x (List.mem_cons_self ..)
    have ih := x_lc2T f z l w fun y hy => h y (List.mem_cons_of_mem _ hy)
    rw [List.map_cons]
    unfold lc2Loop
    rw [h1]
    show ((fi1 S1 w).nx.bind fun es w2 => if es.length ≤ 4000 then _ else _) = _
    rw [h2]
    show (if es.length ≤ 4000 then _ else _) = _
    rw [if_pos h3, h4, R.bind_ok, ih, R.bind_ok, List.flatMap_cons]
theorem p_lc2 {fi fi1 : AM} {gm gm1 : GM} {tm tm1 : TM} {em : EM} {S : SL} {vs vs1 : List Nat} {w w1 : Bx} {ds zs : List D} (h : fi S w = .ok ds w1) (hl : ds.length ≤ 4000) (h2 : lc2Loop gm tm fi1 gm1 tm1 em (wipeS S vs) vs1 ds w1 = .ok zs w1) : oLc2 fi gm tm fi1 gm1 tm1 em vs vs1 S w = .ok zs w1 := by
  unfold oLc2; rw [h, R.bind_ok, if_pos hl]; exact h2
theorem ltP_iff (x y : List Nat) : ltP (x.length : Int) (y.length : Int) (tx x) (tx y) = true ↔ lt2 x y := by
  unfold ltP lt2
  by_cases h : x.length = y.length
  · rw [if_pos (by rw [h])]
    simp [h]
  · rw [if_neg (by omega)]
    simp [h]
def optS : Option (List Nat) → D
  | none => .non
  | some s => .str (tx s)
def pairD (x : Nat × Nat) : D := .tup [.int (x.1 : Int), .int (x.2 : Int)]
theorem x_tryE {cs : List Str} {b : Bool} {mb : SM} {S S1 : SL} {w w1 : Bx} {c : Str} {fs : List (Str × D)} (h : mb S w = .err S1 c fs w1) (hc : c ∈ cs) : sTryR cs b mb S w = .rt (.bl b) w1 := by unfold sTryR; rw [h]; simp only [if_pos hc]
theorem x_tryN {cs : List Str} {b : Bool} {mb : SM} {S S1 : SL} {w w1 : Bx} (h : mb S w = .nx S1 w1) : sTryR cs b mb S w = .nx S1 w1 := by unfold sTryR; rw [h]
theorem x_dropE {fe : EM} {S : SL} {w w1 : Bx} {c : Str} {fs : List (Str × D)} (h : fe S w = .err c fs w1) : sDrop fe S w = .err S c fs w1 := by unfold sDrop; rw [h]; rfl
/-! ### all rows up to a length -/
def longer (l : List (List Nat)) : List (List Nat) := l.flatMap fun x => [x ++ [97], x ++ [98]]
def layer : Nat → List (List Nat)
  | 0 => [[]]
  | n + 1 => longer (layer n)
def allRows : Nat → List (List Nat)
  | 0 => [[]]
  | n + 1 => allRows n ++ layer (n + 1)
theorem layer_mem : ∀ {n : Nat} {x : List Nat}, x ∈ layer n ↔ x.length = n ∧ ∀ c ∈ x, AB c
  | 0, x => by
    constructor
    · intro h; rw [List.mem_singleton.mp h]; exact ⟨rfl, fun _ h => (nomatch h)⟩
    · rintro ⟨h, _⟩; rw [List.length_eq_zero_iff.mp h]; exact List.mem_singleton.mpr rfl
  | n + 1, x => by
    unfold layer longer
    rw [List.mem_flatMap]
    constructor
    · rintro ⟨y, hy, hx⟩
      obtain ⟨h1, h2⟩ := layer_mem.mp hy
      simp only [List.mem_cons, List.not_mem_nil, or_false] at hx
      rcases hx with rfl | rfl
      · exact ⟨by simp [h1], fun c hc => by
          rcases List.mem_append.mp hc with k | k
          · exact h2 c k
          · exact .inl (List.mem_singleton.mp k)⟩
      · exact ⟨by simp [h1], fun c hc => by
          rcases List.mem_append.mp hc with k | k
          · exact h2 c k
          · exact .inr (List.mem_singleton.mp k)⟩
    · rintro ⟨h1, h2⟩
      obtain ⟨y, c, rfl⟩ : ∃ y c, x = y ++ [c] := ⟨x.dropLast, x.getLast (by intro z; rw [z] at h1; simp at h1), (List.dropLast_concat_getLast _).symm⟩
      refine ⟨y, layer_mem.mpr ⟨by simpa using h1, fun d hd => h2 d (by simp [hd])⟩, ?_⟩
      rcases h2 c (by simp) with rfl | rfl
      · simp
      · simp
theorem layer_sorted : ∀ n : Nat, (layer n).Pairwise (· < ·)
  | 0 => by unfold layer; exact List.pairwise_singleton _ _
  | n + 1 => by
    have ih := layer_sorted n
    unfold layer longer
    rw [List.pairwise_flatMap]
    refine ⟨fun x _ => ?_, ?_⟩
    · refine List.pairwise_cons.mpr ⟨fun y hy => ?_, List.pairwise_singleton _ _⟩
      rw [List.mem_singleton.mp hy]
      exact lex_pre x (List.Lex.rel (by decide))
    · refine List.Pairwise.imp_of_mem (fun {x y} hx hy hlt => ?_) ih
      have l1 := (layer_mem.mp hx).1
      have l2 := (layer_mem.mp hy).1
      intro p hp q hq
      simp only [List.mem_cons, List.not_mem_nil, or_false] at hp hq
      rcases hp with rfl | rfl <;> rcases hq with rfl | rfl <;> exact lex_app (by rw [l1, l2]) hlt _ _
theorem allRows_mem : ∀ {n : Nat} {x : List Nat}, x ∈ allRows n ↔ x.length ≤ n ∧ ∀ c ∈ x, AB c
  | 0, x => by
    have := layer_mem (n := 0) (x := x)
    show x ∈ layer 0 ↔ _
    rw [this]
    constructor
    · rintro ⟨h1, h2⟩; exact ⟨by omega, h2⟩
    · rintro ⟨h1, h2⟩; exact ⟨by omega, h2⟩
  | n + 1, x => by
    unfold allRows
    rw [List.mem_append, allRows_mem, layer_mem]
    constructor
    · rintro (⟨h1, h2⟩ | ⟨h1, h2⟩)
      · exact ⟨by omega, h2⟩
      · exact ⟨by omega, h2⟩
    · rintro ⟨h1, h2⟩
      by_cases h : x.length ≤ n
      · exact .inl ⟨h, h2⟩
      · exact .inr ⟨by omega, h2⟩
theorem allRows_sorted : ∀ n : Nat, (allRows n).Pairwise lt2
  | 0 => by unfold allRows; exact List.pairwise_singleton _ _
  | n + 1 => by
    unfold allRows
    rw [List.pairwise_append]
    refine ⟨allRows_sorted n, ?_, fun x hx y hy => ?_⟩
    · refine List.Pairwise.imp_of_mem (fun {x y} hx hy hlt => ?_) (layer_sorted (n + 1))
      exact .inr ⟨by rw [(layer_mem.mp hx).1, (layer_mem.mp hy).1], hlt⟩
    · exact .inl (by have := (allRows_mem.mp hx).1; have := (layer_mem.mp hy).1; omega)
theorem layer_len : ∀ n : Nat, (layer n).length = 2 ^ n
  | 0 => rfl
  | n + 1 => by
    unfold layer longer
    rw [List.length_flatMap]
    have : (List.map (fun x : List Nat => [x ++ [97], x ++ [98]].length) (layer n)).sum = (layer n).length * 2 := by
      induction layer n with
      | nil => rfl
      | cons a l ih => rw [List.map_cons, List.sum_cons, ih, List.length_cons]; show 2 + l.length * 2 = (l.length + 1) * 2; omega
    rw [this, layer_len n]; omega
theorem allRows_len : ∀ n : Nat, (allRows n).length + 1 = 2 ^ (n + 1)
  | 0 => rfl
  | n + 1 => by
    unfold allRows
    rw [List.length_append, layer_len]
    have := allRows_len n
    omega
/-- the first of a sorted list that has a thing is the least -/
theorem first_least {P : List Nat → Prop} : ∀ {l : List (List Nat)}, l.Pairwise lt2 → ∀ {i : Nat} {x : List Nat}, l[i]? = some x → (∀ j, j < i → ∀ y, l[j]? = some y → ¬ P y) → ∀ y ∈ l, P y → ¬ lt2 y x := by
  intro l hs i x hx hn y hy hp hlt
  obtain ⟨j, hj⟩ := List.getElem?_of_mem hy
  obtain ⟨hi1, hi2⟩ := List.getElem?_eq_some_iff.mp hx
  obtain ⟨hj1, hj2⟩ := List.getElem?_eq_some_iff.mp hj
  by_cases h : j < i
  · exact hn j h y hj hp
  · rcases Nat.lt_or_eq_of_le (Nat.le_of_not_lt h) with k | k
    · have := List.pairwise_iff_getElem.mp hs i j hi1 hj1 k
      rw [hi2, hj2] at this
      exact lt2_irrefl _ (lt2_trans this hlt)
    · subst k
      rw [hi2] at hj2
      rw [hj2] at hlt
      exact lt2_irrefl _ hlt
end Y
/-! ### an evaluator that never goes back: each form by one lemma -/
namespace Y
open PySem PySem.Spec PyProof.Rows L2
section
variable {S S1 S2 : SL} {w w1 w2 w3 : Bx} {m k : SM} {f fa fb fo : EM} {fs : AM} {t ta tb : TM} {d e z : D} {ds es : List D} {i j : Nat} {b : Bool} {r r1 : RS} {c n : Str}
def seqK : RS → SM → RS
  | .nx S w, k => k S w
  | r, _ => r
theorem g_seq (h : m S w = r1) (h2 : seqK r1 k = r) : sSeq m k S w = r := by
  unfold sSeq; rw [h, ← h2]; cases r1 <;> rfl
theorem k_nx (h : k S w = r) : seqK (.nx S w) k = r := h
theorem k_rt : seqK (.rt d w) k = .rt d w := rfl
theorem k_ct : seqK (.ct S w) k = .ct S w := rfl
theorem k_bk : seqK (.bk S w) k = .bk S w := rfl
theorem k_er {fl : List (Str × D)} : seqK (.err S c fl w) k = .err S c fl w := rfl
def pick {α : Type} (b : Bool) (x y : SL → Bx → α) : SL → Bx → α := fun S w => if b then x S w else y S w
theorem pick_T {α : Type} {x y : SL → Bx → α} {a : α} (h : x S w = a) : pick true x y S w = a := h
theorem pick_F {α : Type} {x y : SL → Bx → α} {a : α} (h : y S w = a) : pick false x y S w = a := h
theorem pick_t {α : Type} {x y : SL → Bx → α} {a : α} (e : b = true) (h : x S w = a) : pick b x y S w = a := by subst e; exact h
theorem pick_f {α : Type} {x y : SL → Bx → α} {a : α} (e : b = false) (h : y S w = a) : pick b x y S w = a := by subst e; exact h
def tK (b : Bool) : TM := fun _ w => .ok b w
theorem g_tK : tK b S w = .ok b w := rfl
theorem g_if (h : t S w = .ok b w1) (h2 : pick b m k S w1 = r) : sIf t m k S w = r := by unfold sIf; rw [h]; exact h2
theorem g_and {x : R Bool} (h : ta S w = .ok b w1) (h2 : pick b tb (tK false) S w1 = x) : tAndM ta tb S w = x := by unfold tAndM; rw [h]; exact h2
theorem g_or {x : R Bool} (h : ta S w = .ok b w1) (h2 : pick b (tK true) tb S w1 = x) : tOrM ta tb S w = x := by unfold tOrM; rw [h]; exact h2
def notR (b : Bool) (w : Bx) : R Bool := .ok (!b) w
theorem not_T : notR true w = .ok false w := rfl
theorem not_F : notR false w = .ok true w := rfl
theorem g_not {x : R Bool} (h : t S w = .ok b w1) (h2 : notR b w1 = x) : tNotM t S w = x := by unfold tNotM; rw [h]; exact h2
def blR : D → Bx → R Bool
  | .bl b, w => .ok b w
  | _, _ => .bad
theorem bl_R : blR (.bl b) w = .ok b w := rfl
theorem g_tOf {x : R Bool} (h : f S w = .ok d w1) (h2 : blR d w1 = x) : tOf f S w = x := by
  unfold tOf; rw [h, R.bind_ok, ← h2]; cases d <;> rfl
def notE : Bool → Bx → R D
  | b, w => .ok (.bl (!b)) w
theorem notE_T : notE true w = .ok (.bl false) w := rfl
theorem notE_F : notE false w = .ok (.bl true) w := rfl
theorem g_enot {x : R D} (h : tOf f S w = .ok b w1) (h2 : notE b w1 = x) : eNotM f S w = x := by unfold eNotM; rw [h]; exact h2
theorem g_eand {x : R D} (h : tOf fa S w = .ok b w1) (h2 : pick b fb (eC (.bl false)) S w1 = x) : eAndM fa fb S w = x := by unfold eAndM; rw [h]; exact h2
theorem g_eor {x : R D} (h : tOf fa S w = .ok b w1) (h2 : pick b (eC (.bl true)) fb S w1 = x) : eOrM fa fb S w = x := by unfold eOrM; rw [h]; exact h2
theorem g_eif {x : R D} (h : t S w = .ok b w1) (h2 : pick b fa fb S w1 = x) : eIf t fa fb S w = x := by unfold eIf; rw [h]; exact h2
/-! slots, laid out anew -/
theorem s_0 {x y : Option SV} {l : SL} : (x :: l).set 0 y = y :: l := rfl
theorem s_S {x y : Option SV} {l l2 : SL} {i : Nat} (h : l.set i y = l2) : (x :: l).set (i + 1) y = x :: l2 := by rw [← h]; rfl
def setK (i : Nat) (S : SL) : R D → RS
  | .ok d w => .nx (S.set i (some (.dat d))) w
  | .err c fl w => .err S c fl w
  | .bad => .bad
theorem g_set {x : R D} (h : f S w = x) (h2 : setK i S x = r) : sSet i f S w = r := by
  unfold sSet; rw [h, ← h2]; cases x <;> rfl
theorem set_ok (h : S.set i (some (.dat d)) = S1) : setK i S (.ok d w) = .nx S1 w := by rw [← h]; rfl
theorem set_er {fl : List (Str × D)} : setK i S (.err c fl w) = .err S c fl w := rfl
def retK (S : SL) : R D → RS
  | .ok d w => .rt d w
  | .err c fl w => .err S c fl w
  | .bad => .bad
theorem g_ret {x : R D} (h : f S w = x) (h2 : retK S x = r) : sRet f S w = r := by
  unfold sRet; rw [h, ← h2]; cases x <;> rfl
theorem ret_ok : retK S (.ok d w) = .rt d w := rfl
theorem ret_er {fl : List (Str × D)} : retK S (.err c fl w) = .err S c fl w := rfl
def dropK (S : SL) : R D → RS
  | .ok _ w => .nx S w
  | .err c fl w => .err S c fl w
  | .bad => .bad
theorem g_drop {x : R D} (h : f S w = x) (h2 : dropK S x = r) : sDrop f S w = r := by
  unfold sDrop; rw [h, ← h2]; cases x <;> rfl
theorem drop_ok : dropK S (.ok d w) = .nx S w := rfl
theorem drop_er {fl : List (Str × D)} : dropK S (.err c fl w) = .err S c fl w := rfl
theorem g_setO (h : fs S w = .ok ds w1) (h2 : S.set i (some (.own ds)) = S1) : sSetO i fs S w = .nx S1 w1 := by rw [← h2]; exact x_setO h
theorem g_par (h : fs S w = .ok [d, e] w1) (h2 : S.set i (some (.dat d)) = S1) (h3 : S1.set j (some (.dat e)) = S2) : sPar i j fs S w = .nx S2 w1 := by rw [← h3, ← h2]; exact x_par h
theorem g_par3 {S3 : SL} {l : Nat} (h : fs S w = .ok [d, e, z] w1) (h2 : S.set i (some (.dat d)) = S1) (h3 : S1.set j (some (.dat e)) = S2) (h4 : S2.set l (some (.dat z)) = S3) : sPar3 i j l fs S w = .nx S3 w1 := by rw [← h4, ← h3, ← h2]; exact x_par3 h
theorem g_gset (h : S.set i (some (.dat d)) = S1) : gSet i d S = some S1 := by rw [← h]; rfl
theorem g_own0 {l : SL} : ownAt (some (.own ds) :: l) 0 = some ds := rfl
theorem g_app (ho : ownAt S i = some ds) (h : f S w = .ok d w1) (hl : ds.length < 16777216) (h2 : S.set i (some (.own (ds ++ [d]))) = S1) : sAppend i f S w = .nx S1 w1 := by rw [← h2]; exact x_app h ho hl
theorem g_asg {gm : GM} (h : f S w = .ok d w1) (hg : gm d S = some S1) : sAsg f gm S w = .nx S1 w1 := x_asg h hg
theorem g_ct : sCt S w = .ct S w := rfl
theorem g_bk : sBk S w = .bk S w := rfl
theorem g_retN : sRetN S w = .rt .non w := rfl
theorem g_meth {l : Nat} {mm : List D → Bx → R D} {x : R D} (ha : fo S w = .ok d w1) (ho : isObj c n d = true) (hb : fs S w1 = .ok ds w2) (hn : ds.length + 1 = l) (hm : mm (d :: ds) w2 = x) : eMeth c n l mm fo fs S w = x := x_meth ha ho hb hn hm
theorem g_negO {mm : List D → Bx → R D} {x : R D} (ha : fa S w = .ok d w1) (ho : isCls c d = true) (hm : mm [d] w1 = x) : eNegO c mm fa S w = x := by
  unfold eNegO; rw [ha, R.bind_ok, if_pos ho]; exact hm
theorem g_chain {mo m2 : D → D → Option D} {fc : EM} {x : R D} (h : eChain mo m2 fa fb fc S w = x) : eChain mo m2 fa fb fc S w = x := h
/-- an object's class and lack of a field, by its constructor -/
theorem obj_at {c' : Str} {fl : List (Str × D)} (h1 : c' = c) (h2 : (fl.lookup n).isNone = true) : isObj c n (.obj c' fl) = true := by
  subst h1; show (decide (c' = c') && (fl.lookup n).isNone) = true; rw [h2]; simp
theorem cls_at {fl : List (Str × D)} : isCls c (.obj c fl) = true := by unfold isCls; simp
end
/-- a loop over range(n), each turn comes through -/
theorem x_forK {gm : GM} {body : SM} (I : SL → Prop) (hs : ∀ (k : Nat) (S : SL) (w : Bx), I S → ∃ S1 S2 w2, gm (.int (k : Int)) S = some S1 ∧ body S1 w = .nx S2 w2 ∧ I S2) (n : Nat) (S : SL) (w : Bx) (h : I S) : ∃ S2 w2, forLoop gm body (upFrom 0 n) S w = .nx S2 w2 ∧ I S2 := by
  have e : upFrom 0 n = (List.range n).map fun (k : Nat) => D.int (k : Int) := by simp [upFrom]
  rw [e]
  exact x_forN (fun (k : Nat) => D.int (k : Int)) (fun _ S _ => I S) n h fun k S w _ h => hs k S w h
theorem mod_pos (i j : Int) (h : 0 < j) : mMod (.int i) (.int j) = some (.int (i % j)) := by
  show (if 0 < j then some (D.int (i % j)) else none) = _
  rw [if_pos h]
theorem ne_same {n : Nat} {d : D} (h : niceN n d) (hn : n ≤ 64 := by decide) (r : rig d = true) : mNe d d = some (.bl false) := by
  obtain ⟨b, _, e, hb⟩ := mEq_rig h h hn hn r r
  rw [e, hb.mpr rfl]; rfl
theorem eq_same {n : Nat} {d : D} (h : niceN n d) (hn : n ≤ 64 := by decide) (r : rig d = true) : mEq d d = some (.bl true) := by
  obtain ⟨b, e, _, hb⟩ := mEq_rig h h hn hn r r
  rw [e, hb.mpr rfl]
/-- what is told of an error is what is due -/
theorem ne_tag {s : Str} {d : D} {n : Nat} (hs : PyData.strOk s = true) (hd : niceN n d) (hn : n ≤ 60 := by decide) (r : rig d = true := by rfl) : mNe (.tup [.str s, d]) (.tup [.str s, d]) = some (.bl false) :=
  ne_same (n := n + 1) (nice_tupl (nice_cons (by cases n <;> exact hs) (nice_cons hd nice_nil))) (by omega) (by simp only [rig, rigs, r, Bool.and_true])
theorem x_refC {tbl : List (Str × Str)} {fb : EM} {S : SL} {w w1 : Bx} {c F : Str} {t v : D} {fl : List (Str × D)} (h : fb S w = .err c fl w1) (h1 : tbl.lookup c = some F) (h2 : fl.lookup ("tag" : Str) = some t) (h3 : refF fl F = some v) : eRef tbl fb S w = .ok (.tup [t, v]) w1 := x_refE h h1 h2 h3
theorem x_propE {c' c : Str} {fl : List (Str × D)} {mm : List D → Bx → R D} {fo : EM} {S : SL} {w w1 : Bx} (ha : fo S w = .err c fl w1) : eProp c' mm fo S w = .err c fl w1 := by unfold eProp; rw [ha]; rfl
theorem ok_low {l : List Nat} (h : ∀ c ∈ l, c < 128) : PyData.strOk (tx l) = true := by
  unfold PyData.strOk
  rw [← Array.all_toList, List.all_eq_true]
  intro c hc
  have hc' : c ∈ l := by simpa [tx] using hc
  have := h c hc'
  simp
  omega
theorem ab_low {l : List Nat} (h : ∀ c ∈ l, AB c) : ∀ c ∈ l, c < 128 := fun c hc => by rcases h c hc with rfl | rfl <;> decide
/-- two equal told errors in a list -/
theorem ne_tags {n m : Nat} {s : Str} {d : D} (hs : PyData.strOk s = true) (hd : niceN m d) (hm : m ≤ 50 := by decide) (r : rig d = true := by rfl) : mNe (.lst (List.replicate n (.tup [.str s, d]))) (.lst (List.replicate n (.tup [.str s, d]))) = some (.bl false) := by
  refine ne_same (n := m + 2) ?_ (by omega) ?_
  · unfold niceN
    intro x hx
    rw [(List.mem_replicate.mp hx).2]
    exact nice_tupl (nice_cons (by cases m <;> exact hs) (nice_cons hd nice_nil))
  · show rigs _ = true
    induction n with
    | zero => rfl
    | succ n ih => rw [List.replicate_succ]; simp only [rigs, rig, r, ih, Bool.and_true]
theorem lk_nil {n : Str} : (([] : List (Str × D)).lookup n).isNone = true := rfl
theorem lk_cons {n k : Str} {v : D} {r : List (Str × D)} (h : (n == k) = false) (h2 : (r.lookup n).isNone = true) : (((k, v) :: r).lookup n).isNone = true := by rw [List.lookup_cons, h]; exact h2
theorem g_tup2 {i j : Nat} {d e : D} {S S1 S2 : SL} (h1 : S.set i (some (.dat d)) = S1) (h2 : S1.set j (some (.dat e)) = S2) : gTupM (gsCons (gSet i) (gsCons (gSet j) gsNil)) (.tup [d, e]) S = some S2 := by rw [← h2, ← h1]; rfl
theorem g_tup3 {i j k : Nat} {d e z : D} {S S1 S2 S3 : SL} (h1 : S.set i (some (.dat d)) = S1) (h2 : S1.set j (some (.dat e)) = S2) (h3 : S2.set k (some (.dat z)) = S3) : gTupM (gsCons (gSet i) (gsCons (gSet j) (gsCons (gSet k) gsNil))) (.tup [d, e, z]) S = some S3 := by rw [← h3, ← h2, ← h1]; rfl
end Y
namespace Y
open PySem PySem.Spec PyProof.Rows L2
section
variable {X : Cx} {g : G} {E : EK} {e a b o v1 v2 : Expr} {es rest : List Expr} {pos p p2 : Pos} {f fa fb fo : EM} {fs : List EM} {x c m : Str} {k n : Nat} {mm : List D → Bx → R D}
/-! ### f-strings of texts and ints -/
def mFmt : D → Option D
  | .str s => if s.length ≤ sizeN then some (.str s) else none
  | .int i => if i.natAbs.log2 < 1920 then some (.str (toString i)) else none
  | _ => none
theorem de_fmt (ha : DE X g E a fa) : DE X g E (.FormattedValue a (-1) none pos) (e1 mFmt fa) := by
  obtain ⟨t, p, r⟩ := ha.run
  refine ⟨_, pe_fmt p, fun σ H Q F S w R h => ?_⟩
  refine r σ H _ F S w R (PostG.imp (PostG.bind h) fun d w1 hd h1 v H1 F1 x1 r1 => ?_)
  clear hd
  obtain ⟨z, hz, q⟩ := post_ofO h1
  cases r1 with
  | str s =>
    unfold mFmt at hz
    by_cases hl : s.length ≤ sizeN
    · simp only [if_pos hl] at hz
      cases hz
      exact .inl ⟨s, rfl, hl, q _ H1 F1 x1 (.str _)⟩
    · simp only [if_neg hl] at hz; cases hz
  | int i =>
    unfold mFmt at hz
    by_cases hl : i.natAbs.log2 < 1920
    · simp only [if_pos hl] at hz
      cases hz
      exact .inr ⟨i, rfl, hl, q _ H1 F1 x1 (.str _)⟩
    · simp only [if_neg hl] at hz; cases hz
  | _ => unfold mFmt at hz; cases hz
def jsM : List EM → Str → SL → Bx → R D
  | [], acc, _, w => .ok (.str acc) w
  | f :: fs, acc, S, w => (f S w).bind fun d w1 => match d with
    | .str y => if (acc ++ y).length ≤ sizeN then jsM fs (acc ++ y) S w1 else .bad
    | _ => .bad
inductive DJ (X : Cx) (g : G) (E : EK) : List Expr → List EM → Prop where
  | nil : DJ X g E [] []
  | cons {e : Expr} {f : EM} {es : List Expr} {fs : List EM} (h : DE X g E e f) (r : DJ X g E es fs) : DJ X g E (e :: es) (f :: fs)
def eJoin (fs : List EM) : EM := fun S w => jsM fs Str.empty S w
theorem DJ.pj (h : DJ X g E es fs) : ∃ ts, PJ X es ts ∧ ∀ (acc : Str) σ H (Q : Str → Hp → Prop) F S w, Rel g F w S σ H → Post g F H (fun v H' => ∃ z : Str, v = .str z ∧ Q z H') (E σ) (jsM fs acc S w) → tJs ts acc σ H Q := by
  induction h with
  | nil =>
    refine ⟨[], .nil, fun acc σ H Q F S w R h => ?_⟩
    obtain ⟨z, ez, q⟩ := h (.str acc) H F R.ex (.str acc)
    cases ez
    exact q
  | cons h r ih =>
    obtain ⟨ts, pj, run⟩ := ih
    obtain ⟨t, p, rr⟩ := h.run
    refine ⟨t :: ts, .cons p pj, fun acc σ H Q F S w R h => ?_⟩
    refine rr σ H _ F S w R (PostG.imp (PostG.bind h) fun d w1 hd h1 v H1 F1 x1 r1 => ?_)
    clear hd
    cases r1 with
    | str y =>
      simp only at h1
      by_cases hl : (acc ++ y).length ≤ sizeN
      · rw [if_pos hl] at h1
        exact ⟨y, rfl, hl, run (acc ++ y) σ H1 Q F1 S w1 (R.ext x1) (Post.of x1 h1)⟩
      · rw [if_neg hl] at h1; exact h1.elim
    | _ => exact h1.elim
theorem jsM_str : ∀ {fs : List EM} {acc : Str} {S : SL} {w w1 : Bx} {d : D}, jsM fs acc S w = .ok d w1 → ∃ z, d = .str z
  | [], acc, S, w, w1, d, h => by cases h; exact ⟨_, rfl⟩
  | f :: fs, acc, S, w, w1, d, h => by
    unfold jsM at h
    cases hf : f S w with
    | ok e w2 =>
      rw [hf, R.bind_ok] at h
      cases e with
      | str y =>
        simp only at h
        by_cases hl : (acc ++ y).length ≤ sizeN
        · rw [if_pos hl] at h; exact jsM_str h
        · rw [if_neg hl] at h; cases h
      | _ => cases h
    | _ => rw [hf] at h; cases h
theorem de_fstr (h : DJ X g E (v1 :: v2 :: rest) fs) : DE X g E (.JoinedStr (v1 :: v2 :: rest) pos) (eJoin fs) := by
  obtain ⟨ts, pj, run⟩ := h.pj
  refine ⟨_, pe_joined pj, fun σ H Q F S w R h => ?_⟩
  refine run Str.empty σ H _ F S w R (PostG.imp h fun d w1 hd h1 v H1 F1 x1 r1 => ?_)
  obtain ⟨z, rfl⟩ := jsM_str hd
  cases r1 with
  | str z => exact ⟨z, rfl, h1 _ H1 F1 x1 (.str z)⟩
/-! ### len(x), repr(x) by an own method -/
def rLenI (C : Addr) (sp : Sp) (E : XK) : List V → Hp → VK → Prop := fun xs H Q => ∃ a dx fs, xs = [.ref a] ∧ H a = some (.ins C dx fs) ∧ sp [.ref a] H (fun v H' => ∃ n : Int, v = .int n ∧ 0 ≤ n ∧ n < 2 ^ 63 ∧ Q (.int n) H') E
def rReprI (C : Addr) (sp : Sp) (E : XK) : List V → Hp → VK → Prop := fun xs H Q => ∃ a dx fs, xs = [.ref a] ∧ H a = some (.ins C dx fs) ∧ sp [.ref a] H (fun v H' => ∃ z : Str, v = .str z ∧ Q (.str z) H') E
theorem call_lenI {E : XK} {C f : Addr} {sp : Sp} (F : FnR X.prog X.w X.K X.mg X.base (L2.CX X.prog X.w) k f sp) (hr : Room (k + 1) X.A) (hx : Passes (L2.CX X.prog X.w) X E) (hs : PySem.W.findIn X.K (.ref C) "__len__" = some (some (.ref f))) (hf : PySem.W.isFn X.K (.ref f) = true) :
    CallR X (.builtin "len") (rLenI C sp E) := by
  intro pins s σ H xs us Q I r h
  obtain ⟨a, dx, fs, rfl, ha, q⟩ := h
  obtain ⟨u, rfl, rx⟩ := vals1 r
  cases rx
  obtain ⟨mA, J, _⟩ := ins_get I.hok ha
  obtain ⟨od, J, _⟩ := J.look
  obtain ⟨m, hF⟩ := I.fr
  refine PySem.W.len_K hF I.ok.mod.kin J hs hf ?_
  have e0 : Env0 X.prog X.w X.K X.mg X.base X.A.in1 X.stack s H := by
    have e := I.env0
    exact ⟨e.frames, e.mod, e.bs, e.bsz, e.funs, e.frf, e.hok, e.bare⟩
  refine wpAny_call (codeAny_mono (F X.A.in1 X.stack s H [.ref a] [.ref a] _ E hr.in1 e0 (.cons rfl .nil) q) fun r s' hq => ?_)
  cases r with
  | error e => exact hx pins σ H s e s' I hq
  | ok fl =>
    cases fl with
    | ret u =>
      obtain ⟨z, H', I', rz, n, ez, h0, h1, qz⟩ := I.after hq
      subst ez
      obtain ⟨tk, rfl⟩ := rz
      exact ⟨⟨h0, h1⟩, .int n, H', I'.tok _, ⟨_, rfl⟩, qz⟩
    | next => exact False.elim hq
    | brk => exact False.elim hq
    | cont => exact False.elim hq
theorem call_reprI {E : XK} {C f : Addr} {sp : Sp} (F : FnR X.prog X.w X.K X.mg X.base (L2.CX X.prog X.w) k f sp) (hr : Room (k + 1) X.A) (hx : Passes (L2.CX X.prog X.w) X E) (hs : PySem.W.findIn X.K (.ref C) "__repr__" = some (some (.ref f))) (hf : PySem.W.isFn X.K (.ref f) = true) :
    CallR X (.builtin "repr") (rReprI C sp E) := by
  intro pins s σ H xs us Q I r h
  obtain ⟨a, dx, fs, rfl, ha, q⟩ := h
  obtain ⟨u, rfl, rx⟩ := vals1 r
  cases rx
  obtain ⟨mA, J, _⟩ := ins_get I.hok ha
  obtain ⟨od, J, _⟩ := J.look
  obtain ⟨m, hF⟩ := I.fr
  refine PySem.W.repr_K hr.in1.units0 hF I.ok.mod.kin J hs hf ?_
  have e0 : Env0 X.prog X.w X.K X.mg X.base X.A.in1 X.stack s H := by
    have e := I.env0
    exact ⟨e.frames, e.mod, e.bs, e.bsz, e.funs, e.frf, e.hok, e.bare⟩
  refine wpAny_call (codeAny_mono (F X.A.in1 X.stack s H [.ref a] [.ref a] _ E hr.in1 e0 (.cons rfl .nil) q) fun r s' hq => ?_)
  cases r with
  | error e => exact hx pins σ H s e s' I hq
  | ok fl =>
    cases fl with
    | ret u =>
      obtain ⟨z, H', I', rz, y, ez, qz⟩ := I.after hq
      subst ez
      obtain ⟨tk, rfl⟩ := rz
      exact ⟨.str y, H', I', ⟨_, rfl⟩, qz⟩
    | next => exact False.elim hq
    | brk => exact False.elim hq
    | cont => exact False.elim hq
def lenR : R D → R D
  | .ok (.int n) w => if 0 ≤ n ∧ n < 2 ^ 63 then .ok (.int n) w else .bad
  | _ => .bad
def strR : R D → R D
  | .ok (.str z) w => .ok (.str z) w
  | _ => .bad
def eLenI (c : Str) (mm : List D → Bx → R D) (fa : EM) : EM := fun S w => (fa S w).bind fun d w1 => if isCls c d then lenR (mm [d] w1) else .bad
def eReprI (c : Str) (mm : List D → Bx → R D) (fa : EM) : EM := fun S w => (fa S w).bind fun d w1 => if isCls c d then strR (mm [d] w1) else .bad
theorem de_lenI {E : XK} (hK : g.K = X.K) (M : MthK X.prog X.w X.K X.mg X.base g.cls c "__len__" k 1 mm) (hr : Room (k + 1) X.A) (hx : Passes (L2.CX X.prog X.w) X E) (hm : X.mg "len" = none) (ha : DE X g (kE E) a fa) (hg : Gl X "len" := by rfl)
    (he : starEach [a] X.env = (false, eval a X.env) :: starEach [] X.env := by rfl) (hpl : (backTo pos (starEach [] X.env)).any (·.1) = false := by rfl) : DE X g (kE E) (.Call (.Name "len" p) [a] [] pos) (eLenI c mm fa) := by
  obtain ⟨C, f, fd, ps, hc, _, me, F, bi⟩ := M.ex
  obtain ⟨ta, pa, ra⟩ := ha.run
  refine ⟨_, pe_callB (call_lenI (raw_spM (g := g) F bi) hr hx me.at_ me.fn) hg hm PySem.boot_len (pa_cons pa pa_nil he) (by decide) (by decide) he hpl, fun σ H Q F S w R h => ?_⟩
  refine ra σ H _ F S w R (PostG.imp (PostG.bind h) fun d w1 hd h1 v H1 F1 x1 r1 => ?_)
  by_cases hd : isCls c d = true
  · rw [if_pos hd] at h1
    obtain ⟨q, C', dx, vs, ev, hc', hq⟩ := r1.isCls hd
    obtain rfl : C' = C := Option.some.inj (hc'.symm.trans hc)
    subst ev
    refine ⟨q, dx, vs, rfl, x1.sub _ _ hq, ?_⟩
    rw [← hK]
    refine ⟨rfl, g.bq, F1, [d], w1, x1.sub, x1.bx, .cons r1 .nil, ?_⟩
    cases hmm : mm [d] w1 with
    | ok z w2 =>
      rw [hmm] at h1
      cases z with
      | int n =>
        simp only [lenR] at h1
        by_cases hn : 0 ≤ n ∧ n < 2 ^ 63
        · rw [if_pos hn] at h1
          intro v H' F' x r
          cases r
          exact ⟨n, rfl, hn.1, hn.2, h1 (.int n) H' F' (x1.trans x) (.int _)⟩
        · rw [if_neg hn] at h1; exact h1.elim
      | _ => exact h1.elim
    | _ => rw [hmm] at h1; exact h1.elim
  · rw [if_neg hd] at h1; exact h1.elim
theorem de_reprI {E : XK} (hK : g.K = X.K) (M : MthK X.prog X.w X.K X.mg X.base g.cls c "__repr__" k 1 mm) (hr : Room (k + 1) X.A) (hx : Passes (L2.CX X.prog X.w) X E) (hm : X.mg "repr" = none) (ha : DE X g (kE E) a fa) (hg : Gl X "repr" := by rfl)
    (he : starEach [a] X.env = (false, eval a X.env) :: starEach [] X.env := by rfl) (hpl : (backTo pos (starEach [] X.env)).any (·.1) = false := by rfl) : DE X g (kE E) (.Call (.Name "repr" p) [a] [] pos) (eReprI c mm fa) := by
  obtain ⟨C, f, fd, ps, hc, _, me, F, bi⟩ := M.ex
  obtain ⟨ta, pa, ra⟩ := ha.run
  refine ⟨_, pe_callB (call_reprI (raw_spM (g := g) F bi) hr hx me.at_ me.fn) hg hm (by decide +kernel) (pa_cons pa pa_nil he) (by decide) (by decide) he hpl, fun σ H Q F S w R h => ?_⟩
  refine ra σ H _ F S w R (PostG.imp (PostG.bind h) fun d w1 hd h1 v H1 F1 x1 r1 => ?_)
  by_cases hd : isCls c d = true
  · rw [if_pos hd] at h1
    obtain ⟨q, C', dx, vs, ev, hc', hq⟩ := r1.isCls hd
    obtain rfl : C' = C := Option.some.inj (hc'.symm.trans hc)
    subst ev
    refine ⟨q, dx, vs, rfl, x1.sub _ _ hq, ?_⟩
    rw [← hK]
    refine ⟨rfl, g.bq, F1, [d], w1, x1.sub, x1.bx, .cons r1 .nil, ?_⟩
    cases hmm : mm [d] w1 with
    | ok z w2 =>
      rw [hmm] at h1
      cases z with
      | str n =>
        intro v H' F' x r
        cases r
        exact ⟨n, rfl, h1 (.str n) H' F' (x1.trans x) (.str _)⟩
      | _ => exact h1.elim
    | _ => rw [hmm] at h1; exact h1.elim
  · rw [if_neg hd] at h1; exact h1.elim
end
section
variable {S : SL} {w w1 w2 : Bx} {f : EM} {d : D} {fs : List EM} {acc y : Str} {r : R D} {c : Str} {mm : List D → Bx → R D} {n : Int}
theorem x_fstr (h : jsM fs Str.empty S w = r) : eJoin fs S w = r := h
theorem x_js0 : jsM [] acc S w = .ok (.str acc) w := rfl
theorem x_js (h : f S w = .ok (.str y) w1) (hl : (acc ++ y).length ≤ sizeN) (h2 : jsM fs (acc ++ y) S w1 = r) : jsM (f :: fs) acc S w = r := by
  show (f S w).bind _ = _
  rw [h]; show (if _ then _ else _) = _; rw [if_pos hl]; exact h2
theorem x_lenI (h : f S w = .ok d w1) (hc : isCls c d = true) (hm : mm [d] w1 = .ok (.int n) w2) (h0 : 0 ≤ n ∧ n < 2 ^ 63) : eLenI c mm f S w = .ok (.int n) w2 := by
  unfold eLenI; rw [h, R.bind_ok, if_pos hc, hm]; unfold lenR; simp only [if_pos h0]
theorem x_reprI {z : Str} (h : f S w = .ok d w1) (hc : isCls c d = true) (hm : mm [d] w1 = .ok (.str z) w2) : eReprI c mm f S w = .ok (.str z) w2 := by
  unfold eReprI; rw [h, R.bind_ok, if_pos hc, hm]; rfl
theorem g_ownN {fa fb : EM} {e : D} {w3 : Bx} {b : Bool} (ha : fa S w = .ok d w1) (hb : fb S w1 = .ok e w2) (hc : isCls c d = true) (he : isCls c e = true) (hm : mm [d, e] w2 = .ok (.bl b) w3) (h2 : notE b w3 = r) : eOwnN c mm fa fb S w = r := by
  unfold eOwnN; rw [ha, R.bind_ok, hb, R.bind_ok, hc, he, hm]; exact h2
end
end Y
/-! ### comprehensions of any depth, level by level -/
namespace Y
open PySem PySem.Spec PyProof.Rows L2
/-- one turn of a clause with a body -/
abbrev turnB (tg : Expr) (ip : Pos) (k : Nat) (LC : Expr) (B : Sem Fin → Sem Fin) (it acc : Value) (env : Env) : Sem Fin := do
  standAt ip
  match ← pyNext it with
  | none => pure (.done .next)
  | some v =>
    letOwnedTupleGo tg it v
    assign tg env v
    B (again (.compLoop LC k it acc env))
section
variable {P : Program} {w : World} {A : Around} {R : Result → Shared → Prop} {s : Shared} {tg elt : Expr} {gs : List Comprehension} {scope : Scope} {pos : Pos} {ip : Pos} {k : Nat} {B : Sem Fin → Sem Fin} {it acc : Value} {env : Env}
/-- the loop of a clause, by its body -/
theorem loopB (hT : compTurn (.ListComp elt gs scope pos) k it acc env = turnB tg ip k (.ListComp elt gs scope pos) B it acc env) (I : Nat → Shared → Prop)
    (go : ∀ n s, I n s → wpAny (model P w) A (pyNext it) (fun r s1 => match r with
      | none => R (.ok .next) s1
      | some v => wpAny (model P w) A (letOwnedTupleGo tg it v) (fun _ s2 => wpAny (model P w) A (assign tg env v) (fun _ s3 => wpAny (model P w) A (B (again (.compLoop (.ListComp elt gs scope pos) k it acc env))) (fun fin s' => match fin with | .done f => R (.ok f) s' | .again c' => c' = .compLoop (.ListComp elt gs scope pos) k it acc env ∧ ∃ m, m < n ∧ I m s') (notedBy (model P w) A env fun e s' => R (.error e) s') s3)
        (notedBy (model P w) A env fun e s' => R (.error e) s') s2) (notedBy (model P w) A env fun e s' => R (.error e) s') s1) (notedBy (model P w) A env fun e s' => R (.error e) s') s) (n : Nat) (h : I n s) :
    codeAny (model P w) A (.compLoop (.ListComp elt gs scope pos) k it acc env) R s := by
  refine codeAny_loop rfl I (fun n s hI => ?_) n h
  show wpAny _ A ((compTurn (.ListComp elt gs scope pos) k it acc env).onRaise fun x => do noteFrame x env; theTreesLotGoes x) _ _ s
  refine wpAny_noted ?_
  rw [hT]
  refine wpAny_bind (wpAny_standAt (wpAny_bind (wpAny_mono (go n s hI) (fun r s1 h1 => ?_) fun _ _ z => z)))
  cases r with
  | none => exact wpAny_pure h1
  | some v =>
    exact wpAny_bind (wpAny_mono h1 (fun _ s2 h2 => wpAny_bind (wpAny_mono h2 (fun _ s3 h3 => h3) fun _ _ z => z)) fun _ _ z => z)
/-- a later clause's start -/
theorem startB (hg : ((clausesOf (.ListComp elt gs scope pos))[k]?).elim false (·.is_async != 0) = false) (h0 : codeAny (model P w) A (.compLoop (.ListComp elt gs scope pos) k it acc env) R s)
    (h : wpAny (model P w) A (pyIter it) (fun it' s' => codeAny (model P w) A (.compLoop (.ListComp elt gs scope pos) k it' acc env) R s') (notedBy (model P w) A env fun x s' => R (.error x) s') s) : codeAny (model P w) A (.compStart (.ListComp elt gs scope pos) k it acc env) R s := by
  refine codeAny_of_tree ?_
  show wpAny _ _ ((compStart (.ListComp elt gs scope pos) k it acc env).onRaise fun x => do noteFrame x env; standAt theWindowsPlace) _ _ s
  refine wpAny_notedAt ?_
  unfold compStart
  rw [hg]
  show wpAny _ _ (ask >>= _) _ _ s
  refine wpAny_bind (wpAny_askSetting (wpAny_ite ?_))
  split
  · first
      | exact wpAny_pure ⟨rfl, h0⟩
      | exact wpAny_bind (wpAny_pure (wpAny_pure ⟨rfl, h0⟩))
  · refine wpAny_bind (wpAny_rule ?_)
    cases (clausesOf (.ListComp elt gs scope pos))[k]? with
    | none =>
      first
        | exact wpAny_bind (wpAny_mono h (fun it' s' z => wpAny_pure ⟨rfl, z⟩) fun _ _ z => z)
        | exact wpAny_bind (wpAny_pure (wpAny_bind (wpAny_mono h (fun it' s' z => wpAny_pure ⟨rfl, z⟩) fun _ _ z => z)))
    | some gg => exact wpAny_bind (wpAny_standAt (wpAny_bind (wpAny_mono h (fun it' s' z => wpAny_pure ⟨rfl, z⟩) fun _ _ z => z)))
end
abbrev TB : Type := L2.St → Hp → (Hp → Prop) → Prop
/-- a body: what it asks; the slots us are no more known behind it -/
def PB (X : Cx) (us : List Nat) (B : Sem Fin → Sem Fin) (tb : TB) : Prop := ∀ (pins : List (Addr × Obj)) (s : Shared) (σ : L2.St) (H : Hp) (Nx : Hp → Prop) (k : Sem Fin) (Q : Fin → Shared → Prop) (E : Value → Shared → Prop), Inv X pins σ H s → tb σ H Nx →
  (∀ s' H', Inv X pins (wipe σ us) H' s' → Nx H' → wpAny (model X.prog X.w) X.A k Q E s') → wpAny (model X.prog X.w) X.A (B k) Q E s
/-- the innermost body: the element goes onto the list -/
abbrev appB (elt : Expr) (acc : Value) (env : Env) (k : Sem Fin) : Sem Fin := do
  (do let _ ← call (.builtin "list.append") [acc, ← eval elt env])
  k
def tApp (te : TE) (D : Addr) : TB := fun σ H Nx => te σ H fun y H1 => ∃ acc, H1 D = some (.lst acc) ∧ acc.length < sizeLine ∧ Nx (upd H1 D (.lst (acc ++ [y])))
abbrev lvlB (LC iter : Expr) (k : Nat) (acc : Value) (env : Env) (next : Sem Fin) : Sem Fin := do
  let x ← eval iter env
  standAt iter.pos
  let x ← foldedSetIterable iter env x
  let _ ← runOwn (.compStart LC k (← holding [x] (pyIter x)) acc env) env
  next
def tLvl (wi : TI) (g : TG) (vs : List Nat) (tb : Addr → TB) (D : Addr) : TB := fun σ H Nx => wi σ H fun J H1 => ∃ W : Nat → Nat → Hp → Prop, (∃ m, W 0 m H1) ∧ ∀ j m H, W j m H →
  (J.stop j H ∧ Nx H) ∨ (J.go j H ∧ ∃ N1 : Hp → Prop, (∀ H', N1 H' → ∃ m', m' < m ∧ W (j + 1) m' H') ∧ ∀ x H', J.yld j H x H' → g x (wipe σ vs) H' fun σ1 H2 => wipe σ1 vs = wipe σ vs ∧ tb D σ1 H2 N1)
section
variable {X : Cx}
theorem pb_app {D : Addr} {elt : Expr} {te : TE} (he : PE X elt te) (hxe : X.xe = fun _ _ => False) : PB X [] (appB elt (.ref D) X.env) (tApp te D) := by
  intro pins s σ H Nx k Q E I h hk
  have q := he.run pins s σ H _ I h
  rw [hxe] at q
  refine wpAny_bind (wpAny_bind (thnF q fun z s1 ⟨yv, H1, I1, r1, acc, hD, hz, nx⟩ => ?_))
  exact wpAny_bind (app_ok I1 hD hz r1 fun s2 I2 => wpAny_pure (hk s2 _ I2 nx))
theorem wipe_sub {σ : L2.St} {us vs : List Nat} (h : ∀ i ∈ us, i ∈ vs) {j : Nat} {v : V} (e : (wipe σ vs)[j]? = some (some v)) : (wipe σ us)[j]? = some (some v) := by
  obtain ⟨e1, e2⟩ := wipe_some e
  rw [wipe_get, if_neg fun z => e2 (h j z)]
  exact e1
/-- a clause within -/
theorem pb_lvl {elt tg iter : Expr} {gs : List Comprehension} {scope : Scope} {pos : Pos} {k : Nat} {D : Addr} {wi : TI} {g : TG} {B : Sem Fin → Sem Fin} {us vs : List Nat} {tb : Addr → TB} (hi : PI X tg iter wi) (hg : PG X tg g) (hb : PB X us B (tb D)) (hu : ∀ i ∈ us, i ∈ vs)
    (hT : ∀ it, compTurn (.ListComp elt gs scope pos) k it (.ref D) X.env = turnB tg iter.pos k (.ListComp elt gs scope pos) B it (.ref D) X.env) (hcl : ((clausesOf (.ListComp elt gs scope pos))[k]?).elim false (·.is_async != 0) = false) (hxe : X.xe = fun _ _ => False) (hcalm : X.calm = true)
    (hloc : X.env.locals = X.env.locals) (hfold : ∀ x, foldedSetIterable iter X.env x = pure x) : PB X vs (lvlB (.ListComp elt gs scope pos) iter k (.ref D) X.env) (tLvl wi g vs tb D) := by
  intro pins s σ H Nx nk Q E I h hk
  have q := hi.run pins s σ H _ I h
  rw [hxe] at q
  refine wpAny_bind (thnF q fun xv s1 hx => wpAny_bind (wpAny_standAt (wpAny_bind (wpAny_of_eq (hfold xv) (wpAny_bind (wpAny_holding (thnF hx fun itv s2 h2 => ?_)))))))
  obtain ⟨it, fp, tn, J, H2, e, I2, T, st2, f2, W, ⟨m0, w0⟩, turn⟩ := h2
  subst e
  refine wpAny_bind (wpAny_runOwn ?_)
  rw [Around.mark_none]
  have stat : ∀ {H' : Hp}, (∀ b ∈ fp, H' b = none) → ∀ b ∈ fp, FpOk X pins H' b := fun hn b hb => ⟨hn b hb, (f2 b hb).2⟩
  have loop : codeAny (model X.prog X.w) X.A (.compLoop (.ListComp elt gs scope pos) k (.ref it) (.ref D) X.env) (fun r s' => match r with
      | .ok _ => ∃ H', Inv X pins (wipe σ vs) H' s' ∧ Nx H'
      | .error _ => False) s2 := by
    refine loopB (hT _) (fun n s' => ∃ j H', Inv X pins (wipe σ vs) H' s' ∧ tn j s'.heap ∧ (∀ b ∈ fp, H' b = none) ∧ W j n H') ?_ m0 ⟨0, H2, I2.weak (wipe_length _ _) (fun j v e => (wipe_some e).1), st2, fun b hb => (f2 b hb).1, w0⟩
    rintro n s3 ⟨j, H3, I3, st3, n3, w3⟩
    rcases turn j n H3 w3 with ⟨stop, nx⟩ | ⟨go, N1, hN1, step⟩
    · refine thnF (T.done X rfl rfl rfl hcalm j pins s3 (wipe σ vs) H3 (fun _ _ => False) I3 (stat n3) st3 stop) fun r s4 ⟨hr, I4⟩ => ?_
      subst hr
      exact ⟨_, I4, nx⟩
    · refine thnF (T.item X rfl rfl rfl hcalm j pins s3 (wipe σ vs) H3 (fun _ _ => False) I3 (stat n3) st3 go) fun r s4 ⟨u1, hr, h4⟩ => ?_
      subst hr
      refine thnF h4 fun _ s5 ⟨x1, H5, I5, r5, y5, st5, n5⟩ => ?_
      have q1 := hg.run _ s5 (wipe σ vs) H5 x1 u1 _ (I5.pinned (stat n5) (T.obj _ _ st5)) r5 (step x1 H5 y5)
      rw [hxe] at q1
      refine thnF q1 fun _ s6 ⟨σ6, H6, I6, hw6, q6⟩ => ?_
      refine hb _ s6 σ6 H6 N1 _ _ _ I6 q6 fun s7 H7 I7 nx => wpAny_pure ⟨rfl, ?_⟩
      obtain ⟨m', hm, w'⟩ := hN1 H7 nx
      have held : ∀ b ∈ fp, ∀ o, s5.heap.get? b = some o → s7.heap.get? b = some o ∧ H7 b = none := fun b hb o z =>
        let y := I7.pin (b, o) (List.mem_append_right _ (List.mem_append_right _ (mem_pinsAt hb z)))
        ⟨y.1, y.2.1⟩
      refine ⟨m', hm, j + 1, H7, I7.unpinned.weak (by rw [← hw6, wipe_length, wipe_length]) (fun j v z => ?_), T.keep _ _ _ st5 fun b hb o z => (held b hb o z).1, fun b hb => ?_, w'⟩
      · rw [← hw6] at z
        exact wipe_sub hu z
      · obtain ⟨o, z, _⟩ := T.obj _ _ st5 b hb
        exact (held b hb o z).2
  have fin : codeAny (model X.prog X.w) X.A (.compStart (.ListComp elt gs scope pos) k (.ref it) (.ref D) X.env) (fun r s' => match r with
      | .ok _ => ∃ H', Inv X pins (wipe σ vs) H' s' ∧ Nx H'
      | .error _ => False) s2 := startB hcl loop (T.self X.A 0 _ _ _ st2 loop)
  refine codeAny_mono fin fun r s' hr => ?_
  cases r with
  | error e => exact hr.elim
  | ok f =>
    obtain ⟨H', I', nx⟩ := hr
    first | exact hk s' H' I' nx | exact wpAny_bind (wpAny_pure (hk s' H' I' nx))
/-- [.. for tg in iter ..]: the outermost clause, by its body -/
def tLcB (wi : TI) (g : TG) (vs : List Nat) (tb : Addr → TB) : TE := fun σ H Q => wi σ H fun J H1 => ∀ D, H1 D = none → ∃ W : Nat → Nat → Hp → Prop, (∃ m, W 0 m (upd H1 D (.lst []))) ∧ ∀ i m H, W i m H →
  (J.stop i H ∧ Q (.ref D) H) ∨ (J.go i H ∧ ∃ Nx : Hp → Prop, (∀ H', Nx H' → ∃ m', m' < m ∧ W (i + 1) m' H') ∧ ∀ x H', J.yld i H x H' → g x (wipe σ vs) H' fun σ2 H2 => wipe σ2 vs = wipe σ vs ∧ tb D σ2 H2 Nx)
theorem pe_lcB {elt tg iter : Expr} {rest : List Comprehension} {scope : Scope} {own : List (Str × Nat)} {pos : Pos} {wi : TI} {g : TG} {us : List Nat} {B : Value → Env → Sem Fin → Sem Fin} {tb : Addr → TB} (hcalm : X.calm = true) (hnd : X.N.Nodup) (hit : PI X tg iter wi) (bok : BlkOk X.N X.env.scope scope own)
    (hT : ∀ it acc env, compTurn (.ListComp elt (⟨tg, iter, [], 0⟩ :: rest) scope pos) 0 it acc env = turnB tg iter.pos 0 (.ListComp elt (⟨tg, iter, [], 0⟩ :: rest) scope pos) (B acc env) it acc env) (hu : ∀ i ∈ us, i ∈ own.map (·.2))
    (hg : ∀ (s : Shared) (H : Hp) (C : Addr) (cl : List (Str × Addr)) (fp : List Addr), PG (X.blk s H scope (compEnvC scope cl C X.env) fp) tg g)
    (hb : ∀ (s : Shared) (H : Hp) (C : Addr) (cl : List (Str × Addr)) (fp : List Addr) (D : Addr), PB (X.blk s H scope (compEnvC scope cl C X.env) fp) us (B (.ref D) (compEnvC scope cl C X.env)) (tb D))
    (hfold : ∀ x, foldedSetIterable iter X.env x = pure x := by intro _; rfl) : PE X (.ListComp elt (⟨tg, iter, [], 0⟩ :: rest) scope pos) (tLcB wi g (own.map (·.2)) tb) := by
  refine ⟨fun pins s σ H Q I hread => ?_⟩
  rw [eval_ListComp]
  have hcells : ∀ y ∈ scope.names, y.2 = .free → ∃ c, X.env.cells.lookup y.1 = some c := fun y hy e => (bok.free y hy e).elim (fun k => I.ok.has _ (.inl k)) fun k => I.ok.has _ (.inr k)
  refine wpAny_comprehension_free rfl hfold (closure_ok hcells) bok.kind (fun y hy e => by rw [bok.uniq y hy, e]) (thn (hit.run pins s σ H _ I hread) fun _ _ hx => thn hx fun _ s2 ⟨it, fp, tn, J, H2, e, I2, T, st2, f2, q⟩ => ?_)
  subst e
  refine wpAny_newObj_type (newEnv_comp ?_) (by show 0 ≤ sizeLine; decide)
  -- the list that is filled
  obtain ⟨D, hD⟩ : ∃ D, s2.heap.objs.size = D := ⟨_, rfl⟩
  rw [hD]
  obtain ⟨W, ⟨m0, w0⟩, turn⟩ := q D (I2.hok.fresh (Nat.le_of_eq hD))
  obtain ⟨s3, hs3⟩ : ∃ s3 : Shared, ({ s2 with heap := s2.heap.push { cls := .type "list", data := .seq ([] : List Value).toArray } } : Shared) = s3 := ⟨_, rfl⟩
  obtain ⟨H3, hH3⟩ : ∃ H3 : Hp, upd H2 D (.lst []) = H3 := ⟨_, rfl⟩
  have hp3 : s3.heap = s2.heap.push { cls := .type "list", data := .seq ([] : List Value).toArray } := by rw [← hs3]
  have I3 : Inv X pins σ H3 s3 := by
    rw [← hH3, ← hs3]
    exact I2.laid (t' := s2.toks) (fun b o z => Heap.get?_push_of_some _ z) (Nat.le_of_eq hD) ⟨Nat.zero_le _, [], 0, .nil, by rw [← hD]; exact Heap.get?_push_size _ rfl⟩
  have small : ∀ b ∈ fp, b < s2.heap.objs.size := fun b hb => let ⟨_, z, _⟩ := T.obj _ _ st2 b hb; Heap.lt_size z
  have f3 : ∀ b ∈ fp, FpOk X pins H3 b ∧ b < s3.heap.objs.size := fun b hb => by
    have lt := small b hb
    refine ⟨⟨?_, (f2 b hb).2⟩, by rw [hp3, Heap.size_push]; exact Nat.lt_succ_of_lt lt⟩
    rw [← hH3, upd_ne (show b ≠ D from Nat.ne_of_lt (hD ▸ lt))]
    exact (f2 b hb).1
  have st3 : tn 0 s3.heap := T.keep _ _ _ st2 fun b _ o z => by rw [hp3]; exact Heap.get?_push_of_some _ z
  have I4 := block_start I3 bok hnd f3
  rw [hs3]
  rw [hH3] at w0
  obtain ⟨ce, hce⟩ : ∃ ce, compEnvC scope (cellsFrom (s3.heap.objs.size + 1) scope.names (cloFrom X.env.cells scope.names [])) s3.heap.objs.size X.env = ce := ⟨_, rfl⟩
  have pg := hg s3 H3 s3.heap.objs.size (cellsFrom (s3.heap.objs.size + 1) scope.names (cloFrom X.env.cells scope.names [])) fp
  have pb := hb s3 H3 s3.heap.objs.size (cellsFrom (s3.heap.objs.size + 1) scope.names (cloFrom X.env.cells scope.names [])) fp D
  have nfp : ∀ b ∈ fp, H3 b = none := fun b hb => (f3 b hb).1.1
  have cL : ce.locals = s3.heap.objs.size := by subst hce; rfl
  rw [hce] at I4 pg pb
  obtain ⟨s4, hs4⟩ : ∃ s4 : Shared, ({ s3 with heap := pushCells (s3.heap.push { cls := .type "dict", data := .dict #[] }) scope.names } : Shared) = s4 := ⟨_, rfl⟩
  rw [hs4] at I4
  have st4 : tn 0 s4.heap := T.keep _ _ _ st3 fun b _ o z => by rw [← hs4]; exact pushCells_keeps _ _ _ _ (Heap.get?_push_of_some _ z)
  have walk : ∀ {σ' : L2.St} {H' : Hp} {s' : Shared}, Inv (X.blk s3 H3 scope ce fp) [] σ' H' s' → (∀ b ∈ fp, H' b = none) → ∀ b ∈ fp, FpOk (X.blk s3 H3 scope ce fp) [] H' b := fun {σ' H' s'} I' hn b hb =>
    ⟨hn b hb, (I'.ok.exf b hb).1, I'.ok.exfs b hb, .inl hb, fun x c z => (I'.ok.exf b hb).2 x c z, fun p hp => by cases (show p ∈ ([] : List (Addr × Obj)) from hp)⟩
  have loop : codeAny (model X.prog X.w) X.A (.compLoop (.ListComp elt (⟨tg, iter, [], 0⟩ :: rest) scope pos) 0 (.ref it) (.ref D) ce) (compPost (model X.prog X.w) X.A X.xe none (fun v s' => ∃ (y : V) (H' : Hp), Inv X pins σ H' s' ∧ RelV y v ∧ Q y H') (.ref D) s3.heap.objs.size) s4 := by
    refine loopB (hT _ _ _) (fun n s' => ∃ i H', Inv (X.blk s3 H3 scope ce fp) [] (wipe σ (own.map (·.2))) H' s' ∧ tn i s'.heap ∧ (∀ b ∈ fp, H' b = none) ∧ W i n H') ?_ m0 ⟨0, H3, I4, st4, nfp, w0⟩
    rintro n s5 ⟨i, H5, I5, st5, n5, w5⟩
    rcases turn i n H5 w5 with ⟨stop, qq⟩ | ⟨go, Nx, hNx, step⟩
    · refine thnF (T.done (X.blk s3 H3 scope ce fp) rfl rfl rfl hcalm i [] s5 _ H5 (fun _ _ => False) I5 (walk I5 n5) st5 stop) fun r s6 ⟨hr, I6⟩ => ?_
      subst hr
      have I7 : Inv X pins σ H5 s6 := I3.call' (ch := fp) I6.os I6.base I6.hok I6.bare fun b hb => ⟨(f3 b hb).1.2.2.2.1, (f3 b hb).1.2.1, (f3 b hb).1.2.2.2.2.1, (f3 b hb).1.2.2.2.2.2⟩
      have nC : H5 s3.heap.objs.size = none := by have z : H5 ce.locals = none := I6.free; rw [cL] at z; exact z
      obtain ⟨m, hn, _⟩ := I6.loc
      have hn : s6.heap.Ns ce.locals m := hn
      rw [cL] at hn
      obtain ⟨f0, f1, f2', f3', f4, f5⟩ := I3.fpOk (Nat.le_refl _) nC
      refine ⟨m, hn, fun h'' sb => ?_⟩
      exact ⟨.ref D, H5, I7.turned (t' := s6.toks) (fun b o hb z => (sb.2 b hb).trans z) f0 f1 f3' f4 f5, rfl, qq⟩
    · refine thnF (T.item (X.blk s3 H3 scope ce fp) rfl rfl rfl hcalm i [] s5 _ H5 (fun _ _ => False) I5 (walk I5 n5) st5 go) fun r s6 ⟨u, hr, h6⟩ => ?_
      subst hr
      refine thnF h6 fun _ s7 ⟨x, H7, I7, r7, y7, st7, n7⟩ => ?_
      refine thnF (pg.run _ s7 _ H7 x u _ (I7.pinned (walk I7 n7) (T.obj _ _ st7)) r7 (step x H7 y7)) fun _ s8 ⟨σ8, H8, I8, hw8, q8⟩ => ?_
      refine pb _ s8 σ8 H8 Nx _ _ _ I8 q8 fun s9 H9 I9 nx => wpAny_pure ⟨rfl, ?_⟩
      obtain ⟨m', hm, w'⟩ := hNx H9 nx
      have held : ∀ b ∈ fp, ∀ o, s7.heap.get? b = some o → s9.heap.get? b = some o ∧ H9 b = none := fun b hb o z =>
        let y := I9.pin (b, o) (List.mem_append_right _ (List.mem_append_right _ (mem_pinsAt hb z)))
        ⟨y.1, y.2.1⟩
      refine ⟨m', hm, i + 1, H9, (I9.unpinned (pins := [])).weak (by rw [← hw8, wipe_length, wipe_length]) (fun j v z => by rw [← hw8] at z; exact wipe_sub hu z), T.keep _ _ _ st7 fun b hb o z => (held b hb o z).1, fun b hb => ?_, w'⟩
      obtain ⟨o, z, _⟩ := T.obj _ _ st7 b hb
      exact (held b hb o z).2
  have start := codeAny_compStart_list loop (T.self X.A 0 _ _ _ st4 loop)
  rw [← hce, ← hs4] at start
  exact start
end
end Y
/-! ### comprehensions level by level, as data -/
namespace Y
open PySem PySem.Spec PyProof.Rows L2
abbrev BM : Type := SL → Bx → R (List D)
def appM (em : EM) : BM := fun S w => (em S w).nx.bind fun y w1 => .ok [y] w1
def lvlLoop (gm : GM) (mb : BM) (S0 : SL) : List D → Bx → R (List D)
  | [], w => .ok [] w
  | d :: ds, w => match gm d S0 with
    | none => .bad
    | some S1 => (mb S1 w).nx.bind fun ys w1 => (lvlLoop gm mb S0 ds w1).bind fun zs w2 => .ok (ys ++ zs) w2
def lvlM (fi : AM) (gm : GM) (vs : List Nat) (mb : BM) : BM := fun S w => (fi S w).nx.bind fun es w1 => if es.length ≤ 16 then lvlLoop gm mb (wipeS (datS S) vs) es w1 else .bad
def oLcB (fi : AM) (gm : GM) (vs : List Nat) (mb : BM) : AM := fun S w => (fi S w).bind fun ds w1 => if ds.length ≤ 16 then (lvlLoop gm mb (wipeS (datS S) vs) ds w1).nx else .bad
structure DB (g : G) (n : Nat) (tb : Addr → TB) (mb : BM) : Prop where
  len : ∀ (S : SL) (w w1 : Bx) (zs : List D), mb S w = .ok zs w1 → zs.length ≤ n
  run : ∀ (D : Addr) (σ : L2.St) (H : Hp) (Nx : Hp → Prop) (F : FH) (S : SL) (w : Bx) (FB : FH) (HB : Hp) (acc : List V) (ys : List Y.D), Rel g F w S σ H → HB D = none → D ≠ g.bx → Ext g FB HB F H w → F.free D → H D = some (.lst acc) → DRs g F acc ys → ys.length + n ≤ 16777215 →
    PostG g F H E0 (fun zs w' => ∀ (H' : Hp) (F' : FH) (acc' : List V), Ext g FB HB F' H' w' → FSame F F' → F'.free D → H' D = some (.lst acc') → DRs g F' acc' (ys ++ zs) → Nx H') (mb S w).nx → tb D σ H Nx
section
variable {X : Cx} {g : G} {E : EK}
theorem nx_post' {α : Type} {F : FH} {H : Hp} {Q Q2 : α → Bx → Prop} {r : R α} {E1 E2 : XK} (h : PostG g F H E1 Q r.nx) (i : ∀ a w, r = .ok a w → Q a w → Q2 a w) : PostG g F H E2 Q2 r := by
  cases r with
  | ok a w => exact i a w rfl h
  | err c fs w => exact h.elim
  | bad => exact h.elim
theorem db_app (em : EM) : DB g 1 (tApp (tSem g (kE E0) em)) (appM em) := by
  refine ⟨fun S w w1 zs h => ?_, fun D σ H Nx F S w FB HB acc ys R nD nb x nF hD rys hl hp => ?_⟩
  · unfold appM at h
    cases e : em S w with
    | ok y w2 => rw [e] at h; cases h; exact Nat.le_refl _
    | _ => rw [e] at h; cases h
  · refine ⟨F, S, w, R, ?_⟩
    unfold appM at hp
    cases e : em S w with
    | ok y w1 =>
      rw [e] at hp
      intro v H1 F1 x1 ry
      have hD1 : H1 D = some (.lst acc) := x1.hh D _ nb nF.2 (fun _ z => by cases z) hD
      have nF1 := x1.free nF hD
      refine ⟨acc, hD1, ?_, ?_⟩
      · show acc.length < 16777216
        have := rys.length
        omega
      · exact hp _ F1 (acc ++ [v]) (Ext.mut (x.trans x1) nD nF1 nb hD1 (.inl ⟨_, rfl⟩)) x1.ff nF1 upd_same ((rys.mono x1.ff).append (.cons ry .nil))
    | _ => rw [e] at hp; exact hp.elim
theorem lvl_len {gm : GM} {mb : BM} {n : Nat} {S0 : SL} (hb : ∀ (S : SL) (w w1 : Bx) (zs : List D), mb S w = .ok zs w1 → zs.length ≤ n) : ∀ (ds : List D) (w w1 : Bx) (zs : List D), lvlLoop gm mb S0 ds w = .ok zs w1 → zs.length ≤ ds.length * n
  | [], w, w1, zs, h => by cases h; exact Nat.zero_le _
  | d :: ds, w, w1, zs, h => by
    unfold lvlLoop at h
    cases hg : gm d S0 with
    | none => rw [hg] at h; cases h
    | some S1 =>
      rw [hg] at h
      simp only at h
      cases e : mb S1 w with
      | ok ys w2 =>
        rw [e] at h
        have h : ((lvlLoop gm mb S0 ds w2).bind fun zs w2 => R.ok (ys ++ zs) w2) = .ok zs w1 := h
        cases e2 : lvlLoop gm mb S0 ds w2 with
        | ok us w3 =>
          rw [e2] at h; cases h
          have h1 := hb _ _ _ _ e
          have h2 := lvl_len hb ds _ _ _ e2
          rw [List.length_append, List.length_cons, Nat.succ_mul]; omega
        | _ => rw [e2] at h; cases h
      | _ => rw [e] at h; cases h
/-- the turns of a level, from a list that is being filled -/
theorem lvl_turns {gm : GM} {mb : BM} {ns vs : List Nat} {n : Nat} {tb : Addr → TB} (hn : ∀ i ∈ ns, i ∈ vs) (hb : DB g n tb mb) {J : It} {ds : List D} {D : Addr} {σ : L2.St} {S0 : SL} {F1 : FH} {H1 : Hp} {w1 : Bx} {FB : FH} {HB : Hp} {ys0 : List Y.D} {Nx : Hp → Prop} {E1 : XK}
    (R1 : Rel g F1 w1 S0 (wipe σ vs) H1) (hS : datS S0 = S0) (yl : Yld g F1 J ds) (hl : ds.length ≤ 16) (nD : HB D = none) (nb : D ≠ g.bx) (hlim : ys0.length + 16 * n ≤ 16777215) :
    ∀ (i m : Nat) (H : Hp), (∃ F2 w2 acc ys, Ext g FB HB F2 H w2 ∧ FSame F1 F2 ∧ F2.free D ∧ H D = some (.lst acc) ∧ DRs g F2 acc (ys0 ++ ys) ∧ ys.length ≤ i * n ∧ i + m = ds.length ∧ PostG g F2 H E1 (fun zs w' => ∀ H' F' acc', Ext g FB HB F' H' w' → FSame F1 F' → F'.free D → H' D = some (.lst acc') → DRs g F' acc' (ys0 ++ ys ++ zs) → Nx H') (lvlLoop gm mb S0 (ds.drop i) w2).nx) →
      (J.stop i H ∧ Nx H) ∨ (J.go i H ∧ ∃ N1 : Hp → Prop, (∀ H', N1 H' → ∃ m', m' < m ∧ ∃ F2 w2 acc ys, Ext g FB HB F2 H' w2 ∧ FSame F1 F2 ∧ F2.free D ∧ H' D = some (.lst acc) ∧ DRs g F2 acc (ys0 ++ ys) ∧ ys.length ≤ (i + 1) * n ∧ (i + 1) + m' = ds.length ∧ PostG g F2 H' E1 (fun zs w' => ∀ H'' F' acc', Ext g FB HB F' H'' w' → FSame F1 F' → F'.free D → H'' D = some (.lst acc') → DRs g F' acc' (ys0 ++ ys ++ zs) → Nx H'') (lvlLoop gm mb S0 (ds.drop (i + 1)) w2).nx) ∧
        ∀ x H', J.yld i H x H' → tSemG g ns gm x (wipe σ vs) H' fun σ1 H2 => wipe σ1 vs = wipe σ vs ∧ tb D σ1 H2 N1) := by
  intro i m H ⟨F2, w2, acc, ys, x2, f2, nF2, hD, rys, hy, him, hp⟩
  cases hd : ds[i]? with
  | none =>
    have hle : ds.length ≤ i := List.getElem?_eq_none_iff.mp hd
    have hie : i = ds.length := by omega
    refine .inl ⟨hie ▸ yl.stop F2 H f2 x2.sub, ?_⟩
    rw [List.drop_eq_nil_of_le hle] at hp
    exact hp H F2 acc x2 f2 nF2 hD (by rw [List.append_nil]; exact rys)
  | some d =>
    obtain ⟨hlt, hde⟩ := List.getElem?_eq_some_iff.mp hd
    obtain ⟨hgo, _⟩ := yl.go i d F2 H f2 x2.sub hd
    rw [List.drop_eq_getElem_cons hlt, hde] at hp
    refine .inr ⟨hgo, fun H3 => ∃ F2 w2 acc ys, Ext g FB HB F2 H3 w2 ∧ FSame F1 F2 ∧ F2.free D ∧ H3 D = some (.lst acc) ∧ DRs g F2 acc (ys0 ++ ys) ∧ ys.length ≤ (i + 1) * n ∧ PostG g F2 H3 E1 (fun zs w' => ∀ H'' F' acc', Ext g FB HB F' H'' w' → FSame F1 F' → F'.free D → H'' D = some (.lst acc') → DRs g F' acc' (ys0 ++ ys ++ zs) → Nx H'') (lvlLoop gm mb S0 (ds.drop (i + 1)) w2).nx, fun H' hN => ?_, fun x H3 hx => ?_⟩
    · obtain ⟨F', w', acc', ys', b1, b2, b3, b4, b5, b6, b7⟩ := hN
      exact ⟨m - 1, by omega, F', w', acc', ys', b1, b2, b3, b4, b5, b6, by omega, b7⟩
    · obtain ⟨F3, x3, rx⟩ := yld_item yl f2 x2.sub x2.bx hd hx
      have x23 := x2.trans x3
      have nF3 := x3.free nF2 hD
      have hD3 : H3 D = some (.lst acc) := x3.hh D _ nb nF2.2 (fun _ z => by cases z) hD
      have R3 : Rel g F3 w2 S0 (wipe σ vs) H3 := by rw [← hS]; exact R1.dats (f2.trans x3.ff) x3.sub x3.bx
      unfold lvlLoop at hp
      cases hg : gm d S0 with
      | none => rw [hg] at hp; exact hp.elim
      | some S1 =>
        rw [hg] at hp
        simp only at hp
        refine ⟨F3, S0, w2, d, S1, R3, rx, hg, fun σ1 R4 wp => ⟨wipe_eq hn wp, ?_⟩⟩
        refine hb.run D σ1 H3 _ F3 S1 w2 FB HB acc (ys0 ++ ys) R4 nD nb x23 nF3 hD3 (rys.mono x3.ff) (by
          rw [List.length_append]
          have : (i + 1) * n ≤ 16 * n := Nat.mul_le_mul_right _ (by omega)
          rw [Nat.succ_mul] at this
          omega) ?_
        cases e : mb S1 w2 with
        | ok us w3 =>
          rw [e] at hp
          intro H4 F4 acc4 x4 f4 nF4 hD4 r4
          refine ⟨F4, w3, acc4, ys ++ us, x4, f2.trans (x3.ff.trans f4), nF4, hD4, by rw [← List.append_assoc]; exact r4, ?_, ?_⟩
          · have := hb.len _ _ _ _ e
            rw [List.length_append, Nat.succ_mul]; omega
          · have hp : PostG g F2 H E1 (fun zs w' => ∀ H' F' acc', Ext g FB HB F' H' w' → FSame F1 F' → F'.free D → H' D = some (.lst acc') → DRs g F' acc' (ys0 ++ ys ++ zs) → Nx H') ((lvlLoop gm mb S0 (ds.drop (i + 1)) w3).bind fun zs w2 => R.ok (us ++ zs) w2).nx := hp
            cases e2 : lvlLoop gm mb S0 (ds.drop (i + 1)) w3 with
            | ok zs w5 =>
              rw [e2] at hp
              intro H' F' acc' k1 k2 k3 k4 k5
              exact hp H' F' acc' k1 k2 k3 k4 (by simp only [List.append_assoc] at k5 ⊢; exact k5)
            | _ => rw [e2] at hp; exact hp.elim
        | _ => rw [e] at hp; exact hp.elim
theorem dat_dat (S : SL) : datS (datS S) = datS S := by
  unfold datS
  rw [List.map_map]
  refine List.map_congr_left fun o _ => ?_
  cases o with
  | none => rfl
  | some s => cases s <;> rfl
theorem dat_wipe (S : SL) : ∀ vs : List Nat, datS (wipeS S vs) = wipeS (datS S) vs
  | [] => rfl
  | v :: vs => by
    unfold wipeS
    rw [← dat_wipe S vs]
    unfold datS
    rw [List.map_set]
theorem db_lvl {fi : AM} {gm : GM} {mb : BM} {ns vs : List Nat} {n : Nat} {tb : Addr → TB} (hn : ∀ i ∈ ns, i ∈ vs) (hb : DB g n tb mb) : DB g (16 * n) (tLvl (tSemI g (kE E0) fi) (tSemG g ns gm) vs tb) (lvlM fi gm vs mb) := by
  refine ⟨fun S w w1 zs h => ?_, fun D σ H Nx F S w FB HB acc ys R nD nb x nF hD rys hl hp => ?_⟩
  · unfold lvlM at h
    cases e : fi S w with
    | ok es w2 =>
      rw [e] at h
      have h : (if es.length ≤ 16 then lvlLoop gm mb (wipeS (datS S) vs) es w2 else .bad) = .ok zs w1 := h
      by_cases he : es.length ≤ 16
      · rw [if_pos he] at h
        exact Nat.le_trans (lvl_len hb.len _ _ _ _ h) (Nat.mul_le_mul_right _ he)
      · rw [if_neg he] at h; cases h
    | _ => rw [e] at h; cases h
  · refine ⟨F, S, w, R, ?_⟩
    unfold lvlM at hp
    cases e : fi S w with
    | ok es w1 =>
      rw [e] at hp
      have hp : PostG g F H E0 (fun zs w' => ∀ (H' : Hp) (F' : FH) (acc' : List V), Ext g FB HB F' H' w' → FSame F F' → F'.free D → H' D = some (.lst acc') → DRs g F' acc' (ys ++ zs) → Nx H') (if es.length ≤ 16 then lvlLoop gm mb (wipeS (datS S) vs) es w1 else .bad).nx := hp
      by_cases he : es.length ≤ 16
      · rw [if_pos he] at hp
        intro J H1 F1 x1 yl
        have nF1 := x1.free nF hD
        have hD1 : H1 D = some (.lst acc) := x1.hh D _ nb nF.2 (fun _ z => by cases z) hD
        have R1 : Rel g F1 w1 (wipeS (datS S) vs) (wipe σ vs) H1 := (R.dats x1.ff x1.sub x1.bx).wipe vs
        refine ⟨_, ⟨es.length, F1, w1, acc, [], x.trans x1, FSame.refl F1, nF1, hD1, by rw [List.append_nil]; exact rys.mono x1.ff, Nat.zero_le _, by omega, ?_⟩, lvl_turns (E1 := E0) hn hb R1 (by rw [dat_wipe, dat_dat]) yl he nD nb (by omega)⟩
        cases e2 : lvlLoop gm mb (wipeS (datS S) vs) es w1 with
        | ok zs w3 =>
          rw [e2] at hp
          show PostG g F1 H1 E0 _ (lvlLoop gm mb (wipeS (datS S) vs) (es.drop 0) w1).nx
          rw [List.drop_zero, e2]
          intro H' F' acc' k1 k2 k3 k4 k5
          exact hp H' F' acc' k1 (x1.ff.trans k2) k3 k4 (by rw [List.append_nil] at k5; exact k5)
        | _ => rw [e2] at hp; exact hp.elim
      · rw [if_neg he] at hp; exact hp.elim
    | _ => rw [e] at hp; exact hp.elim
theorem lcB_run {wi : TI} {fi : AM} {gm : GM} {mb : BM} {ns vs : List Nat} {n : Nat} {tb : Addr → TB} (hn : ∀ i ∈ ns, i ∈ vs) (hb : DB g n tb mb) (hn16 : 16 * n ≤ 16777215)
    (ri : ∀ σ H (Rq : It → Hp → Prop) F S w, Rel g F w S σ H → PostG g F H (E σ) (fun ds w' => ∀ J H' F', Ext g F H F' H' w' → Yld g F' J ds → Rq J H') (fi S w) → wi σ H Rq) :
    ∀ σ H Q F S w, Rel g F w S σ H → PostO g F H Q (E σ) (oLcB fi gm vs mb S w) → tLcB wi (tSemG g ns gm) vs tb σ H Q := by
  intro σ H Q F S w R h
  refine ri σ H _ F S w R (PostG.imp (PostG.bind h) fun ds w1 _ h1 J H1 F1 x1 yl D nD => ?_)
  by_cases hl : ds.length ≤ 16
  · rw [if_pos hl] at h1
    have nb : D ≠ g.bx := not_box x1.bx nD
    have x2 : Ext g F1 H1 F1 (upd H1 D (.lst [])) w1 := Ext.own x1.sub x1.bx nD
    have nF := free_of x1.sub x1.bx nD
    have R1 : Rel g F1 w1 (wipeS (datS S) vs) (wipe σ vs) (upd H1 D (.lst [])) := (R.dats (x1.trans x2).ff x2.sub x2.bx).wipe vs
    refine ⟨_, ⟨ds.length, F1, w1, [], [], x1.trans x2, FSame.refl F1, nF, upd_same, .nil, Nat.zero_le _, by omega, ?_⟩, lvl_turns (gm := gm) (Nx := fun H => Q (.ref D) H) (E1 := E0) (FB := F) (HB := H) (ys0 := []) hn hb R1 (by rw [dat_wipe, dat_dat]) yl hl (x1.fresh nD) nb (by simp only [List.length_nil]; omega)⟩
    cases e2 : lvlLoop gm mb (wipeS (datS S) vs) ds w1 with
    | ok zs w3 =>
      rw [e2] at h1
      rw [List.drop_zero, e2]
      intro H' F' acc' k1 k2 k3 k4 k5
      exact h1 D acc' H' F' k1 (x1.fresh nD) k3 k4 k5
    | _ => rw [e2] at h1; exact h1.elim
  · rw [if_neg hl] at h1; exact h1.elim
/-- [.. for a in x for b in y for c in z], three short walks, no tests -/
theorem do_lc3 {elt tg iter tg1 iter1 tg2 iter2 : Expr} {scope : Scope} {pos : Pos} {fi fi1 fi2 : AM} {gm gm1 gm2 : GM} {em : EM} {ns ns1 ns2 : List Nat} (own : List (Str × Nat)) (vs1 vs2 : List Nat) (hc : X.calm = true) (hN : X.N.Nodup) (hi : DI X g E tg iter fi) (ok : BlkOk X.N X.env.scope scope own)
    (hg : ∀ (s : Shared) (H : Hp) (C : Addr) (cl : List (Str × Addr)) (fp : List Addr), DG (X.blk s H scope (compEnvC scope cl C X.env) fp) g tg ns gm)
    (hi1 : ∀ (s : Shared) (H : Hp) (C : Addr) (cl : List (Str × Addr)) (fp : List Addr), DI (X.blk s H scope (compEnvC scope cl C X.env) fp) g (kE E0) tg1 iter1 fi1)
    (hg1 : ∀ (s : Shared) (H : Hp) (C : Addr) (cl : List (Str × Addr)) (fp : List Addr), DG (X.blk s H scope (compEnvC scope cl C X.env) fp) g tg1 ns1 gm1)
    (hi2 : ∀ (s : Shared) (H : Hp) (C : Addr) (cl : List (Str × Addr)) (fp : List Addr), DI (X.blk s H scope (compEnvC scope cl C X.env) fp) g (kE E0) tg2 iter2 fi2)
    (hg2 : ∀ (s : Shared) (H : Hp) (C : Addr) (cl : List (Str × Addr)) (fp : List Addr), DG (X.blk s H scope (compEnvC scope cl C X.env) fp) g tg2 ns2 gm2)
    (he : ∀ (s : Shared) (H : Hp) (C : Addr) (cl : List (Str × Addr)) (fp : List Addr), DE (X.blk s H scope (compEnvC scope cl C X.env) fp) g (kE E0) elt em)
    (hn : ∀ i ∈ ns, i ∈ own.map (·.2) := by decide) (hn1 : ∀ i ∈ ns1, i ∈ vs1 := by decide) (hn2 : ∀ i ∈ ns2, i ∈ vs2 := by decide) (h21 : ∀ i ∈ vs2, i ∈ vs1 := by decide) (h10 : ∀ i ∈ vs1, i ∈ own.map (·.2) := by decide)
    (hs : ∀ x, foldedSetIterable iter X.env x = pure x := by intro _; rfl) (hs1 : ∀ env x, foldedSetIterable iter1 env x = pure x := by intro _ _; rfl) (hs2 : ∀ env x, foldedSetIterable iter2 env x = pure x := by intro _ _; rfl) :
    DO X g E (.ListComp elt [⟨tg, iter, [], 0⟩, ⟨tg1, iter1, [], 0⟩, ⟨tg2, iter2, [], 0⟩] scope pos) (oLcB fi gm (own.map (·.2)) (lvlM fi1 gm1 vs1 (lvlM fi2 gm2 vs2 (appM em)))) := by
  obtain ⟨wi, p, ri⟩ := hi.run
  refine ⟨_, pe_lcB (us := vs1) (B := fun acc env => lvlB (.ListComp elt [⟨tg, iter, [], 0⟩, ⟨tg1, iter1, [], 0⟩, ⟨tg2, iter2, [], 0⟩] scope pos) iter1 1 acc env) hc hN p ok (fun it acc env => rfl) h10 (fun s H C cl fp => (hg s H C cl fp).pg) (fun s H C cl fp D => ?_) hs, lcB_run hn (db_lvl hn1 (db_lvl hn2 (db_app em))) (by decide) ri⟩
  refine pb_lvl (us := vs2) (B := lvlB (.ListComp elt [⟨tg, iter, [], 0⟩, ⟨tg1, iter1, [], 0⟩, ⟨tg2, iter2, [], 0⟩] scope pos) iter2 2 (.ref D) (compEnvC scope cl C X.env)) (hi1 s H C cl fp).pi (hg1 s H C cl fp).pg ?_ h21 (fun it => rfl) rfl rfl hc rfl (hs1 _)
  refine pb_lvl (us := []) (B := appB elt (.ref D) (compEnvC scope cl C X.env)) (hi2 s H C cl fp).pi (hg2 s H C cl fp).pg ?_ (fun _ h => nomatch h) (fun it => rfl) rfl rfl hc rfl (hs2 _)
  exact pb_app (he s H C cl fp).pe rfl
end
end Y
/-! ### defs that hand back a new list, which their caller may change -/
namespace Y
open PySem PySem.Spec PyProof.Rows L2
def spMO (K : PySem.W.Frag) (cls : CT) (n : Nat) (m : List D → Bx → R (List D)) : Sp := fun vs H Q E => vs.length = n ∧ ∃ (bx : BQ) (F : FH) (ds : List D) (w : Bx),
  Same F H ∧ BxOk ⟨K, cls, bx⟩ F w H ∧ DRs ⟨K, cls, bx⟩ F vs ds ∧ PostO ⟨K, cls, bx⟩ F H Q E (m ds w)
def frzM (m : List D → Bx → R (List D)) : List D → Bx → R D := fun ds w => (m ds w).bind fun es w1 => .ok (.lst es) w1
theorem spM_frz {K : PySem.W.Frag} {cls : CT} {n : Nat} {m : List D → Bx → R (List D)} {vs : List V} {H : Hp} {Q : VK} {E : XK} (h : spM K cls n (frzM m) vs H Q E) : spMO K cls n m vs H Q E := by
  obtain ⟨hl, bx, F, ds, w, s, b, r, hp⟩ := h
  refine ⟨hl, bx, F, ds, w, s, b, r, ?_⟩
  unfold frzM at hp
  refine PostG.imp (PostG.bind hp) fun es w1 _ h1 p vs H' F' x np nF hp' rd => ?_
  have nb : p ≠ (⟨K, cls, bx⟩ : G).bx := not_box b np
  exact h1 (.ref p) H' _ (Ext.freeze x np nF hp' nb) (.lst upd_same (rd.mono (FSame.upd nF.1)))
structure CalO (P : Program) (w : World) (K : PySem.W.Frag) (mg : Str → Option Value) (base : Heap) (cls : CT) (x : Str) (k n : Nat) (m : List D → Bx → R (List D)) : Prop where
  ex : ∃ (f : Addr) (fd : FuncData) (ps : List Str), FnOk P w K mg base (L2.CX P w) k f fd ps (spMO K cls n m) ∧ mg x = some (.ref f) ∧ PySem.W.keepIn K (.ref f) = true ∧ Binds K fd ps []
section
variable {P : Program} {w : World} {K : PySem.W.Frag} {mg : Str → Option Value} {base : Heap} {cls : CT} {x c : Str} {k n : Nat} {m : List D → Bx → R (List D)}
theorem fnok_frz {f : Addr} {fd : FuncData} {ps : List Str} (h : FnOk P w K mg base (L2.CX P w) k f fd ps (spMO K cls n m)) : FnOk P w K mg base (L2.CX P w) k f fd ps (spM K cls n (frzM m)) := h.imp fun _ _ _ _ q => spM_frz q
theorem CalO.cal (C : CalO P w K mg base cls x k n m) : Cal P w K mg base cls x k n (frzM m) := let ⟨f, fd, ps, h1, h2⟩ := C.ex; ⟨f, fd, ps, fnok_frz h1, h2⟩
structure MthO (P : Program) (w : World) (K : PySem.W.Frag) (mg : Str → Option Value) (base : Heap) (cls : CT) (c m : Str) (k n : Nat) (mm : List D → Bx → R (List D)) : Prop where
  ex : ∃ (C f : Addr) (fd : FuncData) (ps : List Str), cls c = some C ∧ Cls K C ∧ Meth K C m f ∧ FnOk P w K mg base (L2.CX P w) k f fd ps (spMO K cls n mm) ∧ Binds K fd ps []
end
def oCall (n : Nat) (m : List D → Bx → R (List D)) (fs : AM) : AM := fun S w => (fs S w).bind fun ds w1 => if ds.length = n then m ds w1 else .bad
def oMeth (c m : Str) (n : Nat) (mm : List D → Bx → R (List D)) (fo : EM) (fs : AM) : AM := fun S w => (fo S w).bind fun d w1 => if isObj c m d then (fs S w1).bind fun ds w2 => if ds.length + 1 = n then mm (d :: ds) w2 else .bad else .bad
section
variable {X : Cx} {g : G} {E : EK} {e e2 a b c o : Expr} {es : List Expr} {pos p p2 apos : Pos} {fa fb f fo : EM} {fs ao : AM} {x cn mn : Str} {k n : Nat} {m : List D → Bx → R (List D)}
theorem callO_run {E : XK} {ta : TA} (hK : g.K = X.K) (ra : ∀ σ H Q F S w, Rel g F w S σ H → PostA g F H Q E (fs S w) → ta σ H Q) : ∀ σ H Q F S w, Rel g F w S σ H → PostO g F H Q E (oCall n m fs S w) → tCall (spMO X.K g.cls n m) [] E ta σ H Q := by
  intro σ H Q F S w R h
  refine ra σ H _ F S w R (PostG.imp (PostG.bind h) fun ds w1 _ h1 vs H1 F1 x1 r1 => ?_)
  by_cases hl : ds.length = n
  · rw [if_pos hl] at h1
    show spMO X.K g.cls n m (vs ++ []) H1 Q E
    rw [List.append_nil, ← hK]
    exact ⟨by rw [r1.length]; exact hl, g.bq, F1, ds, w1, x1.sub, x1.bx, r1, PostO.of x1 h1⟩
  · rw [if_neg hl] at h1; exact h1.elim
theorem do_call {E : XK} (hK : g.K = X.K) (C : CalO X.prog X.w X.K X.mg X.base g.cls x k n m) (hr : Room k X.A) (hx : Passes (L2.CX X.prog X.w) X E) (ha : DA X g (kE E) (e :: es) fs) (hg : Gl X x := by rfl) (hdb : (x == ("__debug__" : Str)) = false := by decide)
    (he : starEach (e :: es) X.env = (false, eval e X.env) :: starEach es X.env := by rfl) (hpl : (backTo pos (starEach es X.env)).any (·.1) = false := by rfl) : DO X g (kE E) (.Call (.Name x p) (e :: es) [] pos) (oCall n m fs) := by
  obtain ⟨f, fd, ps, F, hm, hk, hb⟩ := C.ex
  obtain ⟨ta, pa, ra⟩ := ha.run
  exact ⟨_, pe_call F hr hg hm hk hb .nil hx pa hdb he hpl, callO_run hK ra⟩
theorem do_call0 {E : XK} (hK : g.K = X.K) (C : CalO X.prog X.w X.K X.mg X.base g.cls x k n m) (hr : Room k X.A) (hx : Passes (L2.CX X.prog X.w) X E) (hg : Gl X x := by rfl) (hdb : (x == ("__debug__" : Str)) = false := by decide) : DO X g (kE E) (.Call (.Name x p) [] [] pos) (oCall n m aNil) := by
  obtain ⟨f, fd, ps, F, hm, hk, hb⟩ := C.ex
  exact ⟨_, pe_call0 F hr hg hm hk hb .nil hx hdb, callO_run hK fun σ H Q F S w R h => h [] H F R.ex .nil⟩
theorem methO_run {E : XK} {C : Addr} {ta : TE} {t : TA} (hK : g.K = X.K) (hc : g.cls cn = some C) (ro : ∀ σ H Q F S w, Rel g F w S σ H → Post g F H Q E (fo S w) → ta σ H Q) (ra : ∀ σ H Q F S w, Rel g F w S σ H → PostA g F H Q E (fs S w) → t σ H Q) :
    ∀ σ H Q F S w, Rel g F w S σ H → PostO g F H Q E (oMeth cn mn n m fo fs S w) → tMeth C mn (spMO X.K g.cls n m) [] E ta t σ H Q := by
  intro σ H Q F S w R h
  refine ro σ H _ F S w R (PostG.imp (PostG.bind h) fun d w1 hd h1 v H1 F1 x1 r1 => ?_)
  clear hd
  by_cases hd : isObj cn mn d = true
  · rw [if_pos hd] at h1
    obtain ⟨q, C', dx, vs, rfl, hc', hq, hl⟩ := r1.isObj hd
    obtain rfl : C' = C := Option.some.inj (hc'.symm.trans hc)
    refine ⟨q, dx, vs, rfl, x1.sub _ _ hq, hl, ra σ H1 _ F1 S w1 (R.ext x1) (PostG.ext x1 (PostG.bind h1) fun ds w2 h2 us H2 F2 x2 r2 => ?_)⟩
    by_cases hn : ds.length + 1 = n
    · rw [if_pos hn] at h2
      show spMO X.K g.cls n m (.ref q :: (us ++ [])) H2 Q E
      rw [List.append_nil, ← hK]
      exact ⟨by rw [List.length_cons, r2.length]; exact hn, g.bq, F2, d :: ds, w2, x2.sub, x2.bx, .cons (r1.mono x2.ff) r2, PostO.of (x1.trans x2) h2⟩
    · rw [if_neg hn] at h2; exact h2.elim
  · rw [if_neg hd] at h1; exact h1.elim
theorem do_meth0 {E : XK} (hK : g.K = X.K) (M : MthO X.prog X.w X.K X.mg X.base g.cls cn mn k n m) (hr : Room k X.A) (hx : Passes (L2.CX X.prog X.w) X E) (ho : DE X g (kE E) o fo)
    (ht : ∀ (sp : Sp) (C f : Addr) (fd : FuncData) (ps : List Str) (ta : TE), Cls X.K C → Meth X.K C mn f → FnOk X.prog X.w X.K X.mg X.base (L2.CX X.prog X.w) k f fd ps sp → Binds X.K fd ps [] → PE X o ta → Room k X.A → Passes (L2.CX X.prog X.w) X E → PE X (.Call (.Attribute o mn apos) [] [] pos) (tMeth C mn sp [] E ta tNil) := by exact fun _ _ _ _ _ _ h1 h2 h3 h4 h5 hr hx => pe_meth0 h5 h1 h2 h3 hr h4 .nil hx) :
    DO X g (kE E) (.Call (.Attribute o mn apos) [] [] pos) (oMeth cn mn n m fo aNil) := by
  obtain ⟨C, f, fd, ps, hc, cl, hm, F, hb⟩ := M.ex
  obtain ⟨ta, pa, ra⟩ := ho.run
  exact ⟨_, ht _ C f fd ps ta cl hm F hb pa hr hx, methO_run hK hc ra fun σ H Q F S w R h => h [] H F R.ex .nil⟩
end
/-! a body that ends with such a return -/
inductive RO where
  | ok (ds : List D) (w : Bx) | err (S : SL) (c : Str) (fs : List (Str × D)) (w : Bx) | bad
abbrev SMO := SL → Bx → RO
def PostSO (g : G) (F0 : FH) (H0 : Hp) (B : FH) (E : EK) (N : Ends) : RO → Prop
  | .ok ds w => ∀ (p : Addr) (vs : List V) (H' : Hp) (F' : FH), Ext g F0 H0 F' H' w → H0 p = none → F'.free p → H' p = some (.lst vs) → DRs g F' vs ds → N.rt (.ref p) H'
  | .err S c fs w => ∀ (σ' : L2.St) (H' : Hp) (F' : FH), RelS g F0 H0 B F' w S σ' H' → ∀ (cl a : Addr) (vs : List (Str × V)), H0 a = none → g.cls c = some cl → H' a = some (.xd vs) → DRf g F' vs fs → E σ' (.ref cl) (some a) H'
  | .bad => False
structure DSsO (X : Cx) (g : G) (E : EK) (F0 : FH) (H0 : Hp) (st : List Stmt) (m : SMO) : Prop where
  run : ∃ t, PSs X st t ∧ ∀ (N : Ends) (σ : L2.St) (H : Hp) (F : FH) (S : SL) (w : Bx) (B : FH), RelS g F0 H0 B F w S σ H → PostSO g F0 H0 B E N (m S w) → t N σ H
def oSeq (m : SM) (k : SMO) : SMO := fun S w => match m S w with
  | .nx S1 w1 => k S1 w1
  | .err S1 c fs w1 => .err S1 c fs w1
  | _ => .bad
def R.toO {α : Type} : R α → SL → (α → Bx → RO) → RO
  | .ok a w, _, k => k a w
  | .err c fs w, S, _ => .err S c fs w
  | .bad, _, _ => .bad
def oRet (f : AM) : SMO := fun S w => (f S w).toO S fun ds w1 => .ok ds w1
def oRetV (i : Nat) : SMO := fun S w => match ownAt S i with
  | some ds => .ok ds w
  | none => .bad
section
variable {X : Cx} {g : G} {E : EK} {F0 : FH} {H0 : Hp} {B : FH} {e a b c : Expr} {es : List Expr} {pos p p2 px apos : Pos} {fa fb f : EM} {fs ao : AM} {st : Stmt} {sts : List Stmt} {m : SM} {k : SMO} {N : Ends} {x : Str}
theorem dsso_cons (h1 : DS X g E F0 H0 st m) (h2 : DSsO X g E F0 H0 sts k) : DSsO X g E F0 H0 (st :: sts) (oSeq m k) := by
  obtain ⟨t, p, r⟩ := h1.run
  obtain ⟨t2, p2, r2⟩ := h2.run
  refine ⟨_, pss_cons p p2, fun N σ H F S w B R h => ?_⟩
  refine r { N with nx := t2 N } σ H F S w B R ?_
  unfold oSeq at h
  cases hm : m S w with
  | nx S1 w1 => rw [hm] at h; exact fun σ' H' F' R' => r2 N σ' H' F' S1 w1 B R' h
  | err S1 c fs w1 => rw [hm] at h; exact h
  | _ => rw [hm] at h; exact h.elim
theorem PostSO.to {α : Type} {F : FH} {H : Hp} {w : Bx} {S : SL} {σ : L2.St} {r : R α} {k : α → Bx → RO} (R0 : RelS g F0 H0 B F w S σ H) (h : PostSO g F0 H0 B E N (r.toO S k)) : PostG g F H (E σ) (fun a w' => PostSO g F0 H0 B E N (k a w')) r := by
  cases r with
  | ok a w => exact h
  | err c fs w => exact fun cl x vs H' F' e n k l q => h σ H' F' (RelS.ext' R0 e) cl x vs (R0.ext.fresh n) k l q
  | bad => exact h
theorem dsso_ret (ha : DO X g E a fs) : DSsO X g E F0 H0 [.Return (some a) pos] (oRet fs) := by
  obtain ⟨t, p, r⟩ := ha.run
  refine ⟨_, pss_one (ps_ret p), fun N σ H F S w B R h => ?_⟩
  exact r σ H _ F S w R.rel (PostG.imp (PostSO.to R h) fun ds w1 _ h1 p vs H1 F1 x1 np nF hp rd => h1 p vs H1 F1 (R.ext.trans x1) (R.ext.fresh np) nF hp rd)
theorem dsso_retV (i : Nat) (hN : X.N[i]? = some x := by rfl) (hv : Vis X.env.scope x := by first | exact Or.inl rfl | exact Or.inr (Or.inl rfl) | exact Or.inr (Or.inr rfl)) (hd : (x == ("__debug__" : Str)) = false := by decide)
    (hcd : (x == ("__classdict__" : Str)) = false := by decide) : DSsO X g E F0 H0 [.Return (some (.Name x px)) pos] (oRetV i) := by
  refine ⟨_, pss_one (ps_ret (pe_var hN hv hd hcd)), fun N σ H F S w B R h => ?_⟩
  unfold oRetV at h
  cases ho : ownAt S i with
  | none => rw [ho] at h; exact h.elim
  | some ds =>
    rw [ho] at h
    have hi := ownAt_some ho
    obtain ⟨v, e1, q, vs, e2, nF, nb, hp, rd⟩ := R.rel.sl i _ hi
    subst e2
    exact ⟨_, e1, h q vs H F R.ext (R.fr i ds q hi e1) nF hp rd⟩
/-- f(..).append(e): the new list goes at once -/
def sAppT (fo : AM) (f : EM) : SM := fun S w => (fo S w).to S fun ds w1 => (f S w1).to S fun _ w2 => if ds.length < sizeN then .nx S w2 else .bad
theorem ds_appT (ho : DO X g E e ao) (ha : DE X g E a f)
    (hq : ∀ (to te : TE), PE X e to → PE X a te → PE X (.Call (.Attribute e "append" apos) [a] [] p) (tBM X.K "list" rAppend to (tCons te tNil)) := by exact fun _ _ h1 h2 => pe_bm PySem.F.plainAttrs_list PySem.F.slot_list_append PySem.F.type_list_append mt_append h1 (pa_cons h2 pa_nil))
    (hs : swapsWith (.Call (.Attribute e "append" apos) [a] [] p) none pos.line X.env = pure false := by rfl) :
    DS X g E F0 H0 (.Expr (.Call (.Attribute e "append" apos) [a] [] p) pos) (sAppT ao f) := by
  obtain ⟨to, po, ro⟩ := ho.run
  obtain ⟨t, pa, r⟩ := ha.run
  refine ⟨_, ps_expr (hq _ _ po pa) hs, fun N σ H F S w B R h => ?_⟩
  refine ro σ H _ F S w R.rel (PostG.imp (PostS.to R h) fun ds w1 _ h1 q vs H1 F1 x1 nq nF hp rd => ?_)
  have R1 := R.ext' x1
  have nb : q ≠ g.bx := not_box R.rel.bx nq
  refine ⟨.inl ⟨rfl, vs, .inl (.inl hp)⟩, r σ H1 _ F1 S w1 R1.rel (PostG.imp (PostS.to R1 h1) fun d w2 _ h2 v H2 F2 x2 r2 => ?_)⟩
  by_cases hl : ds.length < sizeN
  · rw [if_pos hl] at h2
    have hp2 : H2 q = some (.lst vs) := x2.hh q _ nb nF.2 (fun _ z => by cases z) hp
    exact ⟨q, vs, v, rfl, rfl, hp2, by rw [rd.length]; exact hl, h2 σ _ F2 (R.ext' (Ext.mut (x1.trans x2) nq (x2.free nF hp) nb hp2 (.inl ⟨_, rfl⟩)))⟩
  · rw [if_neg hl] at h2; exact h2.elim
/-- a test that only looks at a list that is changed later: the list is lent -/
def lend (d : D) : Bool := match d with
  | .int _ => false
  | _ => true
def tBor (i : Nat) (t : TM) : TM := fun S w => match ownAt S i with
  | some ds => if ds.any lend then (t (frz i S) w).nx.bind fun b w1 => match w1.st with
    | [] => .ok b w1
    | _ => .bad
    else .bad
  | none => .bad
theorem Rel.frz1 {F : FH} {H : Hp} {w : Bx} {S : SL} {σ : L2.St} {i : Nat} {q : Addr} {vs : List V} {ds : List D} (R : Rel g F w S σ H) (ho : ownAt S i = some ds) (e1 : σ[i]? = some (some (.ref q))) (nF : F.free q) (nb : q ≠ g.bx) (hp : H q = some (.lst vs)) (rd : DRs g F vs ds) :
    Rel g (F.upd q (.lst vs)) w (Y.frz i S) σ H := by
  have sF : FSame F (F.upd q (.lst vs)) := FSame.upd nF.1
  have hi := ownAt_some ho
  have hl : i < S.length := (List.getElem?_eq_some_iff.mp hi).1
  have ef : Y.frz i S = S.set i (some (.dat (.lst ds))) := by unfold Y.frz; rw [ho]
  rw [ef]
  refine ⟨fun a u h => ?_, R.bx.mono sF rfl ?_ (fun j a h => ?_) (fun a ps h => ?_), by rw [List.length_set]; exact R.len, fun j s hj => ?_, fun j k es1 es2 u h1 h2 h3 h4 => ?_⟩
  · have h : L2.upd F.fz q (.lst vs) a = some u := h
    by_cases e : a = q
    · rw [e, upd_same] at h; rw [e, hp]; exact h
    · rw [upd_ne e] at h; exact R.sub a u h
  · show L2.upd F.fz q (.lst vs) g.bx = none
    rw [upd_ne nb.symm]; exact R.bx.no
  · show L2.upd F.fz q (.lst vs) a = none
    rw [upd_ne (show a ≠ q from fun z => nF.2 j (z ▸ h))]; exact (R.bx.nocell h).1
  · have h : L2.upd F.fz q (.lst vs) a = some (.tbl ps) := h
    by_cases e : a = q
    · rw [e, upd_same] at h; cases h
    · rw [upd_ne e] at h; exact R.bx.ntb a ps h
  · rw [List.getElem?_set] at hj
    by_cases e : i = j
    · subst e
      rw [if_pos rfl, if_pos hl] at hj; cases hj
      exact ⟨_, e1, .lst upd_same (rd.mono sF)⟩
    · rw [if_neg e] at hj
      obtain ⟨v, e3, e4⟩ := R.sl j s hj
      refine ⟨v, e3, ?_⟩
      cases s with
      | dat d => exact DR.mono sF e4
      | own zs =>
        obtain ⟨q2, ws, e5, e6, e7, e8, e9⟩ := e4
        subst e5
        refine ⟨q2, ws, rfl, ?_, e7, e8, e9.mono sF⟩
        refine e6.upd fun z => e ?_
        subst z; exact R.inj i j ds zs _ hi hj e1 e3
      | lam ls =>
        obtain ⟨p, ws, e5, e6, e7⟩ := e4
        exact ⟨p, ws, e5, sF.fz _ _ e6, e7.keep sF.fz fun a z nb na hc => ⟨hc, na⟩⟩
      | ins c fs =>
        obtain ⟨C, ws, e5, hc, n1, n2, b1, b2, g1, g2, e9⟩ := e4
        have d1 : g.me ≠ q := fun z => by rw [z, hp] at g1; cases g1
        have d2 : g.md ≠ q := fun z => by rw [z, hp] at g2; cases g2
        exact ⟨C, ws, e5, hc, n1.upd d1, n2.upd d2, b1, b2, g1, g2, e9.mono sF⟩
  · rw [List.getElem?_set] at h1 h2
    by_cases e : i = j
    · rw [if_pos e] at h1; split at h1 <;> cases h1
    · by_cases e2 : i = k
      · rw [if_pos e2] at h2; split at h2 <;> cases h2
      · rw [if_neg e] at h1; rw [if_neg e2] at h2; exact R.inj j k es1 es2 u h1 h2 h3 h4
theorem no_ints {F : FH} : ∀ {vs : List V} {ds : List D} {ns : List Int}, DRs g F vs ds → ds.any lend = true → vs ≠ ns.map V.int
  | [], [], _, .nil, h, _ => by cases h
  | v :: vs, d :: ds, [], .cons _ _, _, e => by cases e
  | v :: vs, d :: ds, n :: ns, .cons r t, h, e => by
    simp only [List.map_cons, List.cons.injEq] at e
    obtain ⟨e1, e2⟩ := e
    subst e1
    cases r
    exact no_ints t (by simpa [lend] using h) e2
theorem dt_bor (i : Nat) {t : TM} (h : DT X g E e t) : DT X g E e (tBor i t) := by
  obtain ⟨tt, p, r⟩ := h.run
  refine ⟨tt, p, fun σ H Q F S w R hq => ?_⟩
  unfold tBor at hq
  cases ho : ownAt S i with
  | none => rw [ho] at hq; exact hq.elim
  | some ds =>
    rw [ho] at hq
    simp only at hq
    by_cases hl : ds.any lend = true
    · rw [if_pos hl] at hq
      obtain ⟨v, e1, q, vs, e2, nF, nb, hp, rd⟩ := R.sl i _ (ownAt_some ho)
      subst e2
      have R1 := R.frz1 ho e1 nF nb hp rd
      refine r σ H _ (F.upd q (.lst vs)) (Y.frz i S) w R1 ?_
      cases ht : t (Y.frz i S) w with
      | ok b w1 =>
        rw [ht] at hq
        intro H' F' x
        have hq : PostT g F H Q (E σ) (match w1.st with | [] => Y.R.ok b w1 | _ => Y.R.bad) := hq
        cases hst : w1.st with
        | cons c cs => rw [hst] at hq; exact hq.elim
        | nil =>
          rw [hst] at hq
          have fq : F'.fz q = some (.lst vs) := x.ff.fz _ _ upd_same
          refine hq H' ⟨fun a => if a = q then none else F'.fz a, F'.ad⟩ ⟨⟨fun a u h => ?_, fun j a h => x.ff.ad j a h⟩, fun a o n nc nt h => x.hh a o n nc nt h, x.dom, fun a o h => ?_, fun j a h => x.nad j a h, fun a u h => ?_, ?_⟩
          · show (if a = q then none else F'.fz a) = some u
            have ne : a ≠ q := fun z => by rw [show F.fz a = none from z ▸ nF.1] at h; cases h
            rw [if_neg ne]
            exact x.ff.fz a u (by show L2.upd F.fz q (.lst vs) a = some u; rw [upd_ne ne]; exact h)
          · have h : (if a = q then none else F'.fz a) = some o := h
            by_cases e : a = q
            · rw [if_pos e] at h; cases h
            · rw [if_neg e] at h
              rcases x.new a o h with z | z
              · have z : L2.upd F.fz q (.lst vs) a = some o := z
                rw [upd_ne e] at z; exact .inl z
              · exact .inr z
          · have h : (if a = q then none else F'.fz a) = some u := h
            by_cases e : a = q
            · rw [if_pos e] at h; cases h
            · rw [if_neg e] at h; exact x.sub a u h
          · have b := x.bx
            refine ⟨?_, ?_, b.big0, b.mk0, b.mk1, b.nc, fun j c h => ?_, b.adl, b.inj, b.tabs, fun a ps h => ?_⟩
            · obtain ⟨c, h1, h2⟩ := b.at_
              refine ⟨c, h1, ?_⟩
              show (if c = q then none else F'.fz c) = _
              have ne : c ≠ q := fun z => by
                have h2 : F'.fz c = some (.lst (w1.cells.map V.int)) := h2
                rw [z, fq] at h2
                exact no_ints rd hl (HO.lst.inj (Option.some.inj h2))
              rw [if_neg ne]; exact h2
            · show (if g.bx = q then none else F'.fz g.bx) = none
              rw [if_neg (Ne.symm nb)]; exact b.no
            · rw [hst] at h; cases h
            · have h : (if a = q then none else F'.fz a) = some (.tbl ps) := h
              by_cases e : a = q
              · rw [if_pos e] at h; cases h
              · rw [if_neg e] at h; exact b.ntb a ps h
      | err c fs w1 => rw [ht] at hq; exact hq.elim
      | bad => rw [ht] at hq; exact hq.elim
    · rw [if_neg hl] at hq; exact hq.elim
end
/-! a def by its body -/
def runFO (k n : Nat) (body : SMO) : List D → Bx → R (List D) := fun ds w => if ds.length = k then (match body (startS n ds) w with
  | .ok es w1 => .ok es w1
  | .err _ c fs w1 => .err c fs w1
  | .bad => .bad) else .bad
section
variable {P : Program} {w : World} {K : PySem.W.Frag} {mg : Str → Option Value} {base : Heap} {cls : CT}
theorem fnok_ofO {x qual : Str} {st : Stmt} {f : Addr} {fd : FuncData} {N ps : List Str} {k : Nat} {body : SMO} (F : Fun K x qual st f fd) (S : FnScope N ps (defScope st))
    (hbody : ∀ (cdv : Value), CodeIs K f cdv → ∀ (A : Around) (outer : List Env) (s : Shared) (H : Hp) (E : XK) (bx : BQ) (F0 : FH), Room k (A.deeper (envOfC qual (defScope st) s.heap.objs.size f cdv)) →
      DSsO (cxOf (L2.CX P w) P w K mg base N qual (defScope st) f cdv A outer s H E) ⟨K, cls, bx⟩ (kE E) F0 H (defBody st) body) : FnOk P w K mg base (L2.CX P w) (k + 1) f fd ps (spMO K cls ps.length (runFO ps.length N.length body)) := by
  refine okC F S (fun vs H Q E h => h.1) (fun cdv hcv A outer s H vs Q E hr h => ?_)
  obtain ⟨hl, bx, F0, ds, w0, s1, b1, rd, hp⟩ := h
  obtain ⟨t, pt, rt⟩ := (hbody cdv hcv A outer s H E bx F0 hr).run
  refine ⟨t, pt, rt _ (start N vs) H F0 (startS N.length ds) w0 F0 (rel_start s1 b1 rd) ?_⟩
  unfold runFO at hp
  rw [if_pos (by rw [← rd.length]; exact hl)] at hp
  cases hbd : body (startS N.length ds) w0 with
  | ok es w1 => simp only [hbd] at hp; exact hp
  | err S1 c fs w1 => simp only [hbd] at hp; exact fun σ' H' F' R' cl a vs n k l r => hp cl a vs H' F' R'.ext n k l r
  | bad => simp only [hbd] at hp; exact hp
theorem calO_of {x : Str} {st : Stmt} {f : Addr} {fd : FuncData} {N ps : List Str} {k : Nat} {body : SMO} (F : Fun K x x st f fd) (S : FnScope N ps (defScope st)) (hmg : mg x = some (.ref f)) (hb : Binds K fd ps [])
    (hbody : ∀ (cdv : Value), CodeIs K f cdv → ∀ (A : Around) (outer : List Env) (s : Shared) (H : Hp) (E : XK) (bx : BQ) (F0 : FH), Room k (A.deeper (envOfC x (defScope st) s.heap.objs.size f cdv)) →
      DSsO (cxOf (L2.CX P w) P w K mg base N x (defScope st) f cdv A outer s H E) ⟨K, cls, bx⟩ (kE E) F0 H (defBody st) body) : CalO P w K mg base cls x (k + 1) ps.length (runFO ps.length N.length body) :=
  ⟨f, fd, ps, fnok_ofO F S hbody, hmg, F.kp, hb⟩
end
end Y
/-! ### where a thing stands in a list; a text cut at a text -/
namespace Y
open PySem PySem.Spec PyProof.Rows L2
def isLst : D → Bool
  | .lst _ => true
  | _ => false
def idxP (p : PyData) : PyData → Option D
  | .list ps => (ps.findIdx? fun z => PyData.eqv z p).map fun (j : Nat) => .int (j : Int)
  | _ => none
def mIndexL (d e : D) : Option D := if isLst d then (shp e).bind fun p => (shp d).bind fun q => idxP p q else none
def eIxL (fa fb : EM) : EM := fun S w => (fa S w).bind fun d w1 => if isLst d then (fb S w1).bind fun e w2 => R.ofO (mIndexL d e) w2 else .bad
section
variable {X : Cx} {g : G} {E : EK} {e a b c : Expr} {es : List Expr} {pos p apos : Pos} {fa fb f : EM}
theorem de_index (hK : g.K = X.K) (hu : X.A.units + 65 < cLine) (ha : DE X g E a fa) (hb : DE X g E b fb)
    (hq : X.A.units + 65 < cLine → ∀ (to te : TE), PE X a to → PE X b te → PE X (.Call (.Attribute a "index" apos) [b] [] p) (tBM X.K "list" (rIndexD X.K) to (tCons te tNil)) := by exact fun hu _ _ h1 h2 => pe_bm PySem.F.plainAttrs_list PySem.F.slot_list_index PySem.F.type_list_index (mt_indexD hu) h1 (pa_cons h2 pa_nil)) :
    DE X g E (.Call (.Attribute a "index" apos) [b] [] p) (eIxL fa fb) := by
  obtain ⟨ta, pa, ra⟩ := ha.run
  obtain ⟨tb, pb, rb⟩ := hb.run
  refine ⟨_, hq hu _ _ pa pb, fun σ H Q F S w R h => ?_⟩
  refine ra σ H _ F S w R (PostG.imp (PostG.bind h) fun d w1 hd h1 v H1 F1 x1 r1 => ?_)
  clear hd
  by_cases hd : isLst d = true
  · rw [if_pos hd] at h1
    cases r1 with
    | @lst q xs ds hq' rs =>
      refine ⟨.inl ⟨rfl, xs, SqL.of (x1.sub _ _ hq')⟩, rb σ H1 _ F1 S w1 (R.ext x1) (PostG.ext x1 (PostG.bind h1) fun e w2 h2 u H2 F2 x2 r2 => ?_)⟩
      obtain ⟨z, hz, k⟩ := post_ofO h2
      unfold mIndexL at hz
      rw [if_pos hd] at hz
      obtain ⟨y, e1, hz⟩ := Option.bind_eq_some_iff.mp hz
      obtain ⟨ps, e2, hz⟩ := Option.bind_eq_some_iff.mp hz
      obtain ⟨a1, a2⟩ := shp_some e1
      obtain ⟨b1, b2⟩ := shp_some e2
      have dl : DR g F2 (.ref q) (.lst ds) := .lst (x2.ff.fz _ _ hq') (rs.mono x2.ff)
      have dp1 := dp_of x2.sub dl b1
      have dp2 := dp_of x2.sub r2 a1
      rw [hK] at dp1 dp2
      cases ps with
      | list ps =>
        obtain ⟨j, hj, ez⟩ := Option.map_eq_some_iff.mp hz
        subst ez
        obtain ⟨hjl, hje, hno⟩ := List.findIdx?_eq_some_iff_getElem.mp hj
        refine ⟨q, u, y, ps, j, ps[j], rfl, rfl, dp1, dp2, b2, a2, List.getElem?_eq_getElem hjl, hje, fun m z' hm hz' => ?_, k _ H2 F2 (x1.trans x2) (.int _)⟩
        obtain ⟨hml, hme⟩ := List.getElem?_eq_some_iff.mp hz'
        have := hno m hm
        rw [hme] at this
        simpa using this
      | _ => cases hz
    | _ => cases hd
  · rw [if_neg hd] at h1; exact h1.elim
def mSplitS : D → D → Option D
  | .str a, .str b => if (b.length == 0) = false ∧ a.length + 2 ≤ sizeN then some (.lst ((Txt.split a b).map D.str)) else none
  | _, _ => none
theorem md_splitS : MtD g (fun x xs H Q => ∃ a b, x = .str a ∧ xs = [.str b] ∧ (b.length == 0) = false ∧ a.length + 2 ≤ sizeLine ∧ rNewStrs (Txt.split a b) H Q) mSplitS := by
  intro F H w x y d e z Q s b rx ry hz q
  unfold mSplitS at hz
  split at hz
  · split at hz
    · rename_i hl
      cases hz; cases rx; cases ry
      exact ⟨_, _, rfl, rfl, hl.1, hl.2, fun p np => q _ _ _ (Ext.lay s b np) (.lst upd_same (drs_strs _))⟩
    · cases hz
  · cases hz
theorem de_split (ha : DE X g E a fa) (hb : DE X g E b fb) (hs : starEach [b] X.env = [(false, eval b X.env)] := by rfl) (hbase : attributeBase a "split" X.env (eval a X.env) = eval a X.env := by rfl) (hline : (apos.endLine == pos.line) = true := by rfl) :
    DE X g E (.Call (.Attribute a "split" apos) [b] [] pos) (eM1 mSplitS fa fb) := de_m1 F.slot_str_split F.type_str_split mt_split md_splitS ha hb hs hbase hline
def mPartition : D → D → Option D
  | .str a, .str b => if (b.length == 0) = false ∧ a.length ≤ sizeN then some (.tup [.str (Txt.partition a b).1, .str (Txt.partition a b).2.1, .str (Txt.partition a b).2.2]) else none
  | _, _ => none
theorem md_partition : MtD g (fun x xs H Q => ∃ a b, x = .str a ∧ xs = [.str b] ∧ (b.length == 0) = false ∧ a.length ≤ sizeLine ∧
      ∀ p, H p = none → Q (.ref p) (upd H p (.tup [.str (Txt.partition a b).1, .str (Txt.partition a b).2.1, .str (Txt.partition a b).2.2]))) mPartition := by
  intro F H w x y d e z Q s b rx ry hz q
  unfold mPartition at hz
  split at hz
  · split at hz
    · rename_i hl
      cases hz; cases rx; cases ry
      exact ⟨_, _, rfl, rfl, hl.1, hl.2, fun p np => q _ _ _ (Ext.lay s b np) (.tup (.inl (.inl upd_same)) (.cons (.str _) (.cons (.str _) (.cons (.str _) .nil))))⟩
    · cases hz
  · cases hz
theorem de_partition (ha : DE X g E a fa) (hb : DE X g E b fb) (hs : starEach [b] X.env = [(false, eval b X.env)] := by rfl) (hbase : attributeBase a "partition" X.env (eval a X.env) = eval a X.env := by rfl) (hline : (apos.endLine == pos.line) = true := by rfl) :
    DE X g E (.Call (.Attribute a "partition" apos) [b] [] pos) (eM1 mPartition fa fb) := de_m1 F.slot_str_partition F.type_str_partition mt_partition md_partition ha hb hs hbase hline
end
end Y
/-! ### what leaves the cells alone -/
namespace Y
open PySem PySem.Spec PyProof.Rows L2
def Sr {α : Type} (s : List Cell) : R α → Prop
  | .ok _ w => w.st = s
  | .err _ _ w => w.st = s
  | .bad => True
def Ss (s : List Cell) : RS → Prop
  | .nx _ w => w.st = s
  | .rt _ w => w.st = s
  | .bk _ w => w.st = s
  | .ct _ w => w.st = s
  | .err _ _ _ w => w.st = s
  | .bad => True
/-- an expression, a test, a list of arguments; a statement; a def: none turns a cell -/
def KF {α : Type} (f : SL → Bx → R α) : Prop := ∀ S w, Sr w.st (f S w)
def KS (m : SM) : Prop := ∀ S w, Ss w.st (m S w)
def KM {α : Type} (m : List D → Bx → R α) : Prop := ∀ ds w, Sr w.st (m ds w)
section
variable {α β : Type} {s : List Cell} {f fa fb fc : EM} {fs fi : AM} {t ta tb : TM} {m k body : SM} {mm : List D → Bx → R D} {gm : GM} {tm : TM} {em : EM} {i j l n : Nat} {c : Str}
theorem sr_bind {r : R α} {k : α → Bx → R β} (h : Sr s r) (hk : ∀ a w, w.st = s → Sr s (k a w)) : Sr s (r.bind k) := by
  cases r with
  | ok a w => exact hk a w h
  | err c fs w => exact h
  | bad => trivial
theorem sr_nx {r : R α} (h : Sr s r) : Sr s r.nx := by
  cases r with
  | ok a w => exact h
  | _ => trivial
theorem sr_of {o : Option α} {w : Bx} (h : w.st = s) : Sr s (R.ofO o w) := by
  cases o with
  | none => trivial
  | some a => exact h
theorem sr_ok {a : α} {w : Bx} (h : w.st = s) : Sr s (.ok a w : R α) := h
theorem ss_to {r : R α} {S : SL} {k : α → Bx → RS} (h : Sr s r) (hk : ∀ a w, w.st = s → Ss s (k a w)) : Ss s (r.to S k) := by
  cases r with
  | ok a w => exact hk a w h
  | err c fs w => exact h
  | bad => trivial
theorem KF.at {f : SL → Bx → R α} (h : KF f) {S : SL} {w : Bx} (e : w.st = s) : Sr s (f S w) := by rw [← e]; exact h S w
theorem KS.at (h : KS m) {S : SL} {w : Bx} (e : w.st = s) : Ss s (m S w) := by rw [← e]; exact h S w
theorem KM.at {mm : List D → Bx → R α} (h : KM mm) {ds : List D} {w : Bx} (e : w.st = s) : Sr s (mm ds w) := by rw [← e]; exact h ds w
theorem kp_var : KF (eVar i) := fun S w => by unfold eVar; split <;> trivial
theorem kp_C {d : D} : KF (eC d) := fun S w => rfl
theorem kp_bin {o : D → D → Option D} (ha : KF fa) (hb : KF fb) : KF (eBin o fa fb) := fun S w => sr_bind (ha S w) fun _ _ e => sr_bind (hb.at e) fun _ _ e => sr_of e
theorem kp_tOf (h : KF f) : KF (tOf f) := fun S w => sr_bind (h S w) fun d _ e => by cases d <;> first | exact e | trivial
theorem kp_not (h : KF t) : KF (tNotM t) := fun S w => sr_bind (h S w) fun _ _ e => e
theorem kp_and (ha : KF ta) (hb : KF tb) : KF (tAndM ta tb) := fun S w => sr_bind (ha S w) fun b _ e => by cases b; exact e; exact hb.at e
theorem kp_or (ha : KF ta) (hb : KF tb) : KF (tOrM ta tb) := fun S w => sr_bind (ha S w) fun b _ e => by cases b; exact hb.at e; exact e
theorem kp_eif (ht : KF t) (ha : KF fa) (hb : KF fb) : KF (eIf t fa fb) := fun S w => sr_bind (ht S w) fun b _ e => by cases b; exact hb.at e; exact ha.at e
theorem kp_enot (h : KF f) : KF (eNotM f) := fun S w => sr_bind ((kp_tOf h) S w) fun _ _ e => e
theorem kp_eand (ha : KF fa) (hb : KF fb) : KF (eAndM fa fb) := fun S w => sr_bind ((kp_tOf ha) S w) fun b _ e => by cases b; exact e; exact hb.at e
theorem kp_eor (ha : KF fa) (hb : KF fb) : KF (eOrM fa fb) := fun S w => sr_bind ((kp_tOf ha) S w) fun b _ e => by cases b; exact hb.at e; exact e
theorem kp_nil : KF aNil := fun _ _ => rfl
theorem kp_cons (ha : KF f) (hb : KF fs) : KF (aCons f fs) := fun S w => sr_bind (ha S w) fun _ _ e => sr_bind (hb.at e) fun _ _ e => e
theorem kp_tup (h : KF fs) : KF (eTup fs) := fun S w => sr_bind (h S w) fun _ _ e => by split; exact e; trivial
theorem kp_lst (h : KF fs) : KF (oLst fs) := fun S w => sr_bind (h S w) fun _ _ e => by split; exact e; trivial
theorem kp_frz (h : KF fs) : KF (eFrz fs) := fun S w => sr_bind (h S w) fun _ _ e => e
theorem kp_pN : KF pNone := fun _ _ => rfl
theorem kp_pS (h : KF f) : KF (pSome f) := fun S w => sr_bind (h S w) fun d _ e => by cases d <;> first | exact e | trivial
theorem kp_sl {l h : SL → Bx → R (Option Int)} (ha : KF f) (hl : KF l) (hh : KF h) : KF (eSl f l h) := fun S w => sr_bind (ha S w) fun _ _ e => sr_bind (hl.at e) fun _ _ e => sr_bind (hh.at e) fun _ _ e => sr_of e
theorem kp_B {o : List D → Option D} (h : KF fs) : KF (eB o fs) := fun S w => sr_bind (h S w) fun _ _ e => sr_of e
theorem kp_oB {o : List D → Option (List D)} (h : KF fs) : KF (oB o fs) := fun S w => sr_bind (h S w) fun _ _ e => sr_of e
theorem kp_1 {o : D → Option D} (h : KF f) : KF (e1 o f) := fun S w => sr_bind (h S w) fun _ _ e => sr_of e
theorem kp_m1 {o : D → D → Option D} (ha : KF fa) (hb : KF fb) : KF (eM1 o fa fb) := fun S w => sr_bind (ha S w) fun d _ e => by
  split
  · exact sr_bind (hb.at e) fun _ _ e => sr_of e
  · trivial
theorem kp_call (hm : KM mm) (h : KF fs) : KF (eCall n mm fs) := fun S w => sr_bind (h S w) fun _ _ e => by split; exact hm.at e; trivial
theorem kp_bx {k : Int} : KF (eBx i k) := fun S w => by unfold eBx; split; exact sr_of rfl; trivial
theorem kp_chain {o o2 : D → D → Option D} (ha : KF fa) (hb : KF fb) (hc : KF fc) : KF (eChain o o2 fa fb fc) := fun S w => sr_bind (ha S w) fun _ _ e => sr_bind (hb.at e) fun _ _ e => sr_bind (sr_of e) fun d _ e => by
  cases d <;> first | trivial | skip
  rename_i b
  cases b
  · exact e
  · exact sr_bind (hc.at e) fun _ _ e => sr_of e
theorem kp_any (h : KF f) : KF (iAny f) := fun S w => sr_bind (h S w) fun _ _ e => sr_of e
theorem kp_by {o : List D → Option (List D)} (h : KF fs) : KF (iBy o fs) := fun S w => sr_bind (h S w) fun _ _ e => sr_of e
theorem kp_enum (h : KF f) : KF (iEnumD f) := fun S w => sr_bind (h S w) fun _ _ e => sr_of e
theorem kp_yes : KF tYesM := fun _ _ => rfl
theorem lc_keep (ht : KF tm) (he : KF em) (S0 : SL) : ∀ (ds : List D) (w : Bx), w.st = s → Sr s (lcLoop gm tm em S0 ds w)
  | [], w, e => e
  | d :: ds, w, e => by
    unfold lcLoop
    split
    · trivial
    · refine sr_bind (sr_nx (ht.at e)) fun b w1 e1 => ?_
      cases b with
      | false => exact lc_keep ht he S0 ds w1 e1
      | true => exact sr_bind (sr_nx (he.at e1)) fun _ w2 e2 => sr_bind (lc_keep ht he S0 ds w2 e2) fun _ _ e => e
theorem kp_lc {vs : List Nat} (hi : KF fi) (ht : KF tm) (he : KF em) : KF (oLc fi gm tm em vs) := fun S w => sr_bind (hi S w) fun _ _ e => by split; exact lc_keep ht he _ _ _ e; trivial
theorem ks_nil : KS sNil := fun _ _ => rfl
theorem ks_bk : KS sBk := fun _ _ => rfl
theorem ks_ct : KS sCt := fun _ _ => rfl
theorem ks_retN : KS sRetN := fun _ _ => rfl
theorem ks_seq (hm : KS m) (hk : KS k) : KS (sSeq m k) := fun S w => by
  unfold sSeq
  have h := hm S w
  cases e : m S w with
  | nx S1 w1 => rw [e] at h; exact hk.at h
  | _ => rw [e] at h; exact h
theorem ks_ret (h : KF f) : KS (sRet f) := fun S w => ss_to (h S w) fun _ _ e => e
theorem ks_drop (h : KF f) : KS (sDrop f) := fun S w => ss_to (h S w) fun _ _ e => e
theorem ks_if (ht : KF t) (hm : KS m) (hk : KS k) : KS (sIf t m k) := fun S w => ss_to (ht S w) fun b _ e => by cases b; exact hk.at e; exact hm.at e
theorem ks_set (h : KF f) : KS (sSet i f) := fun S w => ss_to (h S w) fun _ _ e => e
theorem ks_setO (h : KF fs) : KS (sSetO i fs) := fun S w => ss_to (h S w) fun _ _ e => e
theorem ks_asg (h : KF f) : KS (sAsg f gm) := fun S w => ss_to (h S w) fun _ _ e => by split; exact e; trivial
theorem ks_par (h : KF fs) : KS (sPar i j fs) := fun S w => ss_to (h S w) fun _ _ e => by split; exact e; trivial
theorem ks_par3 (h : KF fs) : KS (sPar3 i j l fs) := fun S w => ss_to (h S w) fun _ _ e => by split; exact e; trivial
theorem ks_frz (h : KS m) : KS (sFrz i m) := fun S w => h _ w
theorem ks_app (h : KF f) : KS (sAppend i f) := fun S w => by
  unfold sAppend
  split
  · exact ss_to (h S w) fun _ _ e => by split; exact e; trivial
  · trivial
theorem ks_bx {k : Int} (h : KF f) : KS (sBx i k f) := fun S w => ss_to (h S w) fun d w1 e => by
  split
  · split
    · rename_i w2 hp
      unfold bxPut at hp
      repeat' (split at hp)
      all_goals first | (cases hp; exact e) | cases hp
    · trivial
  · trivial
theorem for_keep (hb : KS body) : ∀ (ds : List D) (S : SL) (w : Bx), w.st = s → Ss s (forLoop gm body ds S w)
  | [], S, w, e => e
  | d :: ds, S, w, e => by
    unfold forLoop
    split
    · trivial
    · rename_i S1 _
      have h := hb.at (S := S1) e
      cases q : body S1 w with
      | nx S2 w2 => rw [q] at h; exact for_keep hb ds S2 w2 h
      | ct S2 w2 => rw [q] at h; exact for_keep hb ds S2 w2 h
      | bk S2 w2 => rw [q] at h; exact h
      | rt d w2 => rw [q] at h; exact h
      | err S2 c fs w2 => rw [q] at h; exact h
      | bad => trivial
theorem ks_for (hi : KF fi) (hb : KS body) : KS (sFor fi gm body) := fun S w => ss_to (hi S w) fun _ _ e => for_keep hb _ _ _ e
theorem km_run (h : KS m) : KM (runF i n m) := fun ds w => by
  unfold runF
  split
  · have q := h (startS n ds) w
    cases e : m (startS n ds) w with
    | nx _ _ => rw [e] at q; exact q
    | rt _ _ => rw [e] at q; exact q
    | err _ _ _ _ => rw [e] at q; exact q
    | _ => trivial
  · trivial
/-- what it is for -/
theorem KM.of {ds : List D} {w w' : Bx} {d : D} (h : KM mm) (e : mm ds w = .ok d w') : w'.st = w.st := by have q := h ds w; rw [e] at q; exact q
end
/-! steps for the forms of Y47, Y48 -/
section
variable {S S1 S2 : SL} {w w1 w2 w3 : Bx} {f fa fb fo : EM} {fs ao : AM} {d e z : D} {ds es : List D} {i n : Nat} {c m : Str} {b : Bool} {t : TM} {mO : List D → Bx → R (List D)}
theorem frz_ok (h : mO ds w = .ok es w1) : frzM mO ds w = .ok (.lst es) w1 := by unfold frzM; rw [h]; rfl
theorem x_ixL (ha : fa S w = .ok (.lst ds) w1) (hb : fb S w1 = .ok e w2) (hm : mIndexL (.lst ds) e = some z) : eIxL fa fb S w = .ok z w2 := by
  unfold eIxL; rw [ha, R.bind_ok, if_pos (show isLst (.lst ds) = true from rfl), hb, R.bind_ok, hm]; rfl
theorem x_oCall {r : R (List D)} (h : fs S w = .ok ds w1) (hn : ds.length = n) (hm : mO ds w1 = r) : oCall n mO fs S w = r := by
  unfold oCall; rw [h, R.bind_ok, if_pos hn]; exact hm
theorem x_oMeth {r : R (List D)} (ha : fo S w = .ok d w1) (ho : isObj c m d = true) (hb : fs S w1 = .ok ds w2) (hn : ds.length + 1 = n) (hm : mO (d :: ds) w2 = r) : oMeth c m n mO fo fs S w = r := by
  unfold oMeth; rw [ha, R.bind_ok, if_pos ho, hb, R.bind_ok, if_pos hn]; exact hm
theorem x_appT (ha : ao S w = .ok ds w1) (hb : f S w1 = .ok d w2) (hl : ds.length < 16777216) : sAppT ao f S w = .nx S w2 := by
  unfold sAppT; rw [ha]; show (f S w1).to S _ = _; rw [hb]; show (if _ then _ else _) = _; rw [if_pos (show ds.length < sizeN from hl)]
theorem x_bor (ho : ownAt S i = some ds) (hl : ds.any lend = true) (h : t (frz i S) w = .ok b w1) (hs : w1.st = []) : tBor i t S w = .ok b w1 := by
  unfold tBor; rw [ho]; simp only [hl, if_true]
  rw [h]
  show (match w1.st with | [] => R.ok b w1 | _ => R.bad) = _
  rw [hs]
theorem x_runFO {k N : Nat} {body : SMO} (hl : ds.length = k) (h : body (startS N ds) w = .ok es w1) : runFO k N body ds w = .ok es w1 := by
  unfold runFO; rw [if_pos hl, h]
theorem x_oSeq {m : SM} {k : SMO} {r : RO} (h : m S w = .nx S1 w1) (h2 : k S1 w1 = r) : oSeq m k S w = r := by unfold oSeq; rw [h]; exact h2
theorem x_oRet (h : fs S w = .ok ds w1) : oRet fs S w = .ok ds w1 := by unfold oRet; rw [h]; rfl
end
end Y
/-! ### texts of any signs; loops that find -/
namespace Y
open PySem PySem.Spec PyProof.Rows L2
theorem ok_app {a b : Str} (ha : PyData.strOk a = true) (hb : PyData.strOk b = true) : PyData.strOk (a ++ b) = true := by
  unfold PyData.strOk at *
  have e : (a ++ b).cps = a.cps ++ b.cps := rfl
  rw [e]
  simp only [Array.all_append, ha, hb, Bool.and_self]
theorem ok_glue {g : Str} (hg : PyData.strOk g = true) : ∀ (ys : List Str) (a : Array Nat), a.all (· < 0x110000) = true → (∀ y ∈ ys, PyData.strOk y = true) → (ys.foldl (fun acc p => acc ++ g.cps ++ p.cps) a).all (· < 0x110000) = true
  | [], a, h, _ => h
  | y :: ys, a, h, hy => by
    rw [List.foldl_cons]
    refine ok_glue hg ys _ ?_ fun z hz => hy z (List.mem_cons_of_mem _ hz)
    have h2 := hy y List.mem_cons_self
    unfold PyData.strOk at hg h2
    simp only [Array.all_append, h, hg, h2, Bool.and_self]
theorem ok_join {g : Str} {ys : List Str} (hg : PyData.strOk g = true) (hy : ∀ y ∈ ys, PyData.strOk y = true) : PyData.strOk (Txt.join g ys) = true := by
  show PyData.strOk (Builtin.Str.glued g ys) = true
  unfold Builtin.Str.glued
  cases ys with
  | nil =>
    show PyData.strOk Str.empty = true
    decide +kernel
  | cons y ys => exact ok_glue hg ys _ (hy y List.mem_cons_self) fun z hz => hy z (List.mem_cons_of_mem _ hz)
theorem len_glue {g : Str} : ∀ (ys : List Str) (a : Array Nat), (ys.foldl (fun acc p => acc ++ g.cps ++ p.cps) a).size = a.size + (ys.map (·.length)).sum + ys.length * g.length
  | [], a => by simp
  | y :: ys, a => by
    rw [List.foldl_cons, len_glue ys]
    have h1 : g.cps.size = g.length := rfl
    have h2 : y.cps.size = y.length := rfl
    simp only [Array.size_append, h1, h2, List.map_cons, List.sum_cons, List.length_cons, Nat.succ_mul]
    omega
theorem len_join {g : Str} {ys : List Str} : (Txt.join g ys).length ≤ (ys.map (·.length)).sum + ys.length * g.length := by
  show (Builtin.Str.glued g ys).length ≤ _
  unfold Builtin.Str.glued
  cases ys with
  | nil => exact Nat.zero_le _
  | cons y ys =>
    show (ys.foldl (fun acc p => acc ++ g.cps ++ p.cps) y.cps).size ≤ _
    rw [len_glue]
    have h2 : y.cps.size = y.length := rfl
    simp only [List.map_cons, List.sum_cons, List.length_cons, Nat.succ_mul, h2]
    omega
theorem nice_strs {ys : List Str} (hy : ∀ y ∈ ys, PyData.strOk y = true) : niceN 2 (.lst (ys.map D.str)) := nice_list (n := 1) fun d hd => by
  obtain ⟨y, h, rfl⟩ := List.mem_map.mp hd
  exact hy y h
theorem toPys_str : ∀ ys : List Str, toPys (ys.map D.str) = some (ys.map PyData.str)
  | [] => by rw [List.map_nil, toPys, List.map_nil]
  | y :: ys => by rw [List.map_cons, toPys, toPys_str ys, toPy]; rfl
theorem shp_s {t : Str} (ht : PyData.strOk t = true) : shp (.str t) = some (.str t) := by
  obtain ⟨p, h1, h2⟩ := nice_shp (show niceN 1 (.str t) from ht) (by decide)
  rw [toPy] at h1; cases h1
  exact h2
theorem shp_ss {ys : List Str} (hy : ∀ y ∈ ys, PyData.strOk y = true) : shp (.lst (ys.map D.str)) = some (.list (ys.map PyData.str)) := by
  obtain ⟨q, h3, h4⟩ := nice_shp (nice_strs hy) (by decide)
  rw [toPy, toPys_str] at h3; cases h3
  exact h4
theorem eqv_ss (a b : Str) : PyData.eqv (.str a) (.str b) = decide (a = b) := by
  rw [eqv_strL (d := .str b) (by rw [toPy])]
  show decide (b = a) = _
  by_cases h : a = b
  · subst h; rfl
  · rw [decide_eq_false h, decide_eq_false fun e => h e.symm]
theorem in_texts {t : Str} {ys : List Str} (ht : PyData.strOk t = true) (hy : ∀ y ∈ ys, PyData.strOk y = true) : mIn (.str t) (.lst (ys.map D.str)) = some (.bl (decide (t ∈ ys))) := by
  have e : inB (.str t) (.lst (ys.map D.str)) = some (decide (t ∈ ys)) := by
    simp only [inB, shp_s ht, shp_ss hy, Option.bind_some]
    congr 1
    rw [List.any_map]
    rw [show ((fun z => PyData.eqv z (.str t)) ∘ PyData.str) = fun y => decide (y = t) from funext fun y => eqv_ss y t]
    by_cases h : t ∈ ys
    · rw [decide_eq_true h, List.any_eq_true]; exact ⟨t, h, decide_eq_true rfl⟩
    · rw [decide_eq_false h, List.any_eq_false]; intro y hy; simp; rintro rfl; exact h hy
  unfold mIn
  rw [e]; rfl
theorem index_texts {t : Str} {ys : List Str} (ht : PyData.strOk t = true) (hy : ∀ y ∈ ys, PyData.strOk y = true) : mIndexL (.lst (ys.map D.str)) (.str t) = (ys.findIdx? fun y => decide (y = t)).map fun (j : Nat) => D.int (j : Int) := by
  unfold mIndexL
  rw [if_pos (show isLst (.lst (ys.map D.str)) = true from rfl), shp_s ht, Option.bind_some, shp_ss hy, Option.bind_some]
  show Option.map _ (List.findIdx? (fun z => PyData.eqv z (.str t)) (ys.map PyData.str)) = _
  rw [List.findIdx?_map]
  rw [show ((fun z => PyData.eqv z (.str t)) ∘ PyData.str) = fun y => decide (y = t) from funext fun y => eqv_ss y t]
theorem eq_texts {a b : Str} : mEq (.str a) (.str b) = some (.bl (decide (a = b))) := by
  show some (D.bl _) = _
  rfl
/-- a loop that hands back the first that fits -/
theorem x_forF1 {α : Type} {gm : GM} {body : SM} {w : Bx} (f : α → D) (P : α → Bool) (I : SL → Prop) : ∀ (l : List α) (S : SL), I S → (∀ a ∈ l, ∀ S, I S → ∃ S1, gm (f a) S = some S1 ∧ ((P a = true ∧ body S1 w = .rt (f a) w) ∨ (P a = false ∧ ∃ S2, body S1 w = .nx S2 w ∧ I S2))) →
    (∃ a, l.find? P = some a ∧ forLoop gm body (l.map f) S w = .rt (f a) w) ∨ (l.find? P = none ∧ ∃ S2, forLoop gm body (l.map f) S w = .nx S2 w ∧ I S2)
  | [], S, h, _ => .inr ⟨rfl, S, rfl, h⟩
  | a :: l, S, h, hs => by
    obtain ⟨S1, h1, h2⟩ := hs a List.mem_cons_self S h
    have go : forLoop gm body ((a :: l).map f) S w = match body S1 w with
        | .nx S2 w2 => forLoop gm body (l.map f) S2 w2
        | .ct S2 w2 => forLoop gm body (l.map f) S2 w2
        | .bk S2 w2 => .nx S2 w2
        | r => r := by
      rw [List.map_cons]
      show (match gm (f a) S with | none => RS.bad | some S1 => _) = _
      rw [h1] <;> rfl
    rw [go]
    rcases h2 with ⟨p, h2⟩ | ⟨p, S2, h2, h3⟩
    · rw [h2]
      exact .inl ⟨a, by rw [List.find?_cons, p], rfl⟩
    · rw [h2]
      rcases x_forF1 f P I l S2 h3 (fun b hb => hs b (List.mem_cons_of_mem _ hb)) with ⟨b, e1, e2⟩ | ⟨e1, S3, e2, e3⟩
      · exact .inl ⟨b, by rw [List.find?_cons, p]; exact e1, e2⟩
      · exact .inr ⟨by rw [List.find?_cons, p]; exact e1, S3, e2, e3⟩
end Y
local macro_rules | `(tactic| walk_at "y_leaf") => `(tactic| first
    | ((with_reducible show _ = _); (with_reducible assumption))
    | ((first | with_reducible refine Y.st_eq ?_ | with_reducible refine Y.st_ne ?_ | with_reducible refine Y.st_in ?_ | with_reducible refine Y.st_nin ?_ | with_reducible refine Y.st_tab ?_ | with_reducible refine Y.st_tabD ?_) <;> (first | exact ⟨Y.of_isT (by decide +kernel)⟩ | exact ⟨Y.of_isF (by decide +kernel)⟩ | skip))
    | ((first | with_reducible refine Y.tqO ?_ | with_reducible refine Y.tqN ?_ | with_reducible refine Y.tqB ?_ | with_reducible refine Y.tqD ?_ | with_reducible refine Y.tqL ?_) <;> rfl))
local macro_rules | `(tactic| walk_at "y_ev") => `(tactic| repeat' (first
    | with_reducible exact Y.x_nil
    | with_reducible exact Y.x_C
    | with_reducible exact Y.x_pN
    | with_reducible exact Y.x_skip
    | (((with_reducible apply Y.x_var)) <;> rfl)
    | (with_reducible apply Y.x_cons)
    | (with_reducible apply Y.x_tOf)
    | (with_reducible apply Y.x_bin)
    | (with_reducible apply Y.x_e1)
    | (with_reducible apply Y.x_B)
    | ((with_reducible apply Y.x_tupZ); (· walk_at "y_ev"); (· exact Y.lsz rfl); (· rfl))
    | ((with_reducible apply Y.x_lst); (· walk_at "y_ev"); (· exact Y.lsz rfl))
    | (with_reducible apply Y.x_frz)
    | (with_reducible apply Y.x_dget2)
    | (with_reducible apply Y.x_sl)
    | (with_reducible apply Y.x_pSome)
    | ((with_reducible apply Y.x_call); (· walk_at "y_ev"); (· rfl))
    | (with_reducible apply Y.x_ret)
    | (with_reducible apply Y.x_set)
    | (with_reducible apply Y.x_par)
    | (with_reducible apply Y.x_par3)
    | ((with_reducible apply Y.x_seqR); (with_reducible apply Y.x_ifT); (· (walk_at "y_ev"; done)); (with_reducible apply Y.x_ret))
    | (with_reducible apply Y.x_seq)
    | ((with_reducible apply Y.x_ifT); (· (walk_at "y_ev"; done)))
    | ((with_reducible apply Y.x_ifF); (· (walk_at "y_ev"; done)))
    | ((with_reducible apply Y.x_eifT); (· (walk_at "y_ev"; done)))
    | ((with_reducible apply Y.x_eifF); (· (walk_at "y_ev"; done)))
    | ((with_reducible apply Y.x_notT); (· (walk_at "y_ev"; done)))
    | ((with_reducible apply Y.x_notF); (· (walk_at "y_ev"; done)))
    | ((with_reducible apply Y.x_orT); (· (walk_at "y_ev"; done)))
    | ((with_reducible apply Y.x_orF); (· (walk_at "y_ev"; done)))
    | ((with_reducible apply Y.x_andF); (· (walk_at "y_ev"; done)))
    | ((with_reducible apply Y.x_andT); (· (walk_at "y_ev"; done)))
    | ((with_reducible apply Y.x_enotT); (· (walk_at "y_ev"; done)))
    | ((with_reducible apply Y.x_enotF); (· (walk_at "y_ev"; done)))
    | ((with_reducible apply Y.x_eorT); (· (walk_at "y_ev"; done)))
    | ((with_reducible apply Y.x_eorF); (· (walk_at "y_ev"; done)))
    | ((with_reducible apply Y.x_eandF); (· (walk_at "y_ev"; done)))
    | ((with_reducible apply Y.x_eandT); (· (walk_at "y_ev"; done)))
    | walk_at "y_leaf"))
local macro_rules | `(tactic| walk_at "y_gl") => `(tactic| first
    | (with_reducible exact Y.x_rfN)
    | ((with_reducible apply Y.g_lam); (· walk_at "y_lf"); (· walk_at "y_st"))
    | ((with_reducible apply Y.x_refs); (· rfl); (· exact Nat.le_of_ble_eq_true rfl); (· exact Nat.le_of_ble_eq_true rfl))
    | (with_reducible apply Y.x_rfC)
    | ((with_reducible apply Y.g_ownN); (· walk_at "y_go"); (· walk_at "y_go"); (· walk_at "y_lf"); (· walk_at "y_lf"); (· walk_at "y_lf"); (· first | with_reducible exact Y.notE_T | with_reducible exact Y.notE_F))
    | ((with_reducible apply Y.x_reprI); (· walk_at "y_go"); (· walk_at "y_lf"); (· walk_at "y_lf"))
    | ((with_reducible apply Y.x_lenI); (· walk_at "y_go"); (· walk_at "y_lf"); (· walk_at "y_lf"); (· omega)))
local macro_rules | `(tactic| walk_at "y_kp") => `(tactic| repeat' (first
    | (with_reducible assumption)
    | with_reducible exact Y.kp_var
    | with_reducible exact Y.kp_C
    | with_reducible exact Y.kp_nil
    | with_reducible exact Y.kp_pN
    | with_reducible exact Y.kp_bx
    | with_reducible exact Y.kp_yes
    | with_reducible exact Y.ks_nil
    | with_reducible exact Y.ks_bk
    | with_reducible exact Y.ks_ct
    | with_reducible exact Y.ks_retN
    | with_reducible apply Y.kp_bin
    | with_reducible apply Y.kp_tOf
    | with_reducible apply Y.kp_not
    | with_reducible apply Y.kp_and
    | with_reducible apply Y.kp_or
    | with_reducible apply Y.kp_eif
    | with_reducible apply Y.kp_enot
    | with_reducible apply Y.kp_eand
    | with_reducible apply Y.kp_eor
    | with_reducible apply Y.kp_cons
    | with_reducible apply Y.kp_tup
    | with_reducible apply Y.kp_lst
    | with_reducible apply Y.kp_frz
    | with_reducible apply Y.kp_pS
    | with_reducible apply Y.kp_sl
    | with_reducible apply Y.kp_B
    | with_reducible apply Y.kp_oB
    | with_reducible apply Y.kp_1
    | with_reducible apply Y.kp_m1
    | with_reducible apply Y.kp_call
    | with_reducible apply Y.kp_chain
    | with_reducible apply Y.kp_any
    | with_reducible apply Y.kp_by
    | with_reducible apply Y.kp_enum
    | with_reducible apply Y.kp_lc
    | with_reducible apply Y.ks_seq
    | with_reducible apply Y.ks_ret
    | with_reducible apply Y.ks_drop
    | with_reducible apply Y.ks_if
    | with_reducible apply Y.ks_set
    | with_reducible apply Y.ks_setO
    | with_reducible apply Y.ks_asg
    | with_reducible apply Y.ks_par
    | with_reducible apply Y.ks_par3
    | with_reducible apply Y.ks_frz
    | with_reducible apply Y.ks_app
    | with_reducible apply Y.ks_bx
    | with_reducible apply Y.ks_for))
local macro_rules | `(tactic| walk_at "y_st") => `(tactic| repeat (first | with_reducible exact Y.s_0 | with_reducible apply Y.s_S))
local macro_rules | `(tactic| walk_at "y_lf") => `(tactic| first
    | (with_reducible assumption)
    | (with_reducible exact Y.cls_at)
    | ((with_reducible refine Y.obj_at rfl ?_); (repeat (with_reducible refine Y.lk_cons (by decide +kernel) ?_)); (exact Y.lk_nil))
    | ((first | with_reducible refine Y.st_eq ?_ | with_reducible refine Y.st_ne ?_ | with_reducible refine Y.st_in ?_ | with_reducible refine Y.st_nin ?_ | with_reducible refine Y.st_tab ?_ | with_reducible refine Y.st_tabD ?_) <;> (first | exact ⟨Y.of_isT (by decide +kernel)⟩ | exact ⟨Y.of_isF (by decide +kernel)⟩))
    | ((first | with_reducible refine Y.tqO ?_ | with_reducible refine Y.tqN ?_ | with_reducible refine Y.tqB ?_ | with_reducible refine Y.tqD ?_ | with_reducible refine Y.tqL ?_) <;> rfl))
local macro_rules | `(tactic| walk_at "y_go") => `(tactic| repeat' (first
    | with_reducible exact Y.x_nil
    | with_reducible exact Y.x_C
    | with_reducible exact Y.x_pN
    | with_reducible exact Y.x_skip
    | with_reducible exact Y.k_rt
    | with_reducible exact Y.k_ct
    | with_reducible exact Y.k_bk
    | with_reducible exact Y.k_er
    | with_reducible exact Y.g_tK
    | with_reducible exact Y.not_T
    | with_reducible exact Y.not_F
    | with_reducible exact Y.bl_R
    | with_reducible exact Y.notE_T
    | with_reducible exact Y.notE_F
    | with_reducible exact Y.ret_ok
    | with_reducible exact Y.ret_er
    | with_reducible exact Y.drop_ok
    | with_reducible exact Y.drop_er
    | with_reducible exact Y.set_er
    | with_reducible exact Y.g_ct
    | with_reducible exact Y.g_bk
    | with_reducible exact Y.g_retN
    | (((with_reducible apply Y.x_var)) <;> rfl)
    | (with_reducible apply Y.g_seq)
    | (with_reducible apply Y.k_nx)
    | (with_reducible apply Y.g_if)
    | (with_reducible apply Y.pick_T)
    | (with_reducible apply Y.pick_F)
    | (with_reducible apply Y.g_set)
    | ((with_reducible apply Y.set_ok); walk_at "y_st")
    | (with_reducible apply Y.g_ret)
    | (with_reducible apply Y.g_drop)
    | (with_reducible apply Y.x_cons)
    | (with_reducible apply Y.g_tOf)
    | (with_reducible apply Y.x_bin)
    | (with_reducible apply Y.x_e1)
    | (with_reducible apply Y.x_m1)
    | (with_reducible apply Y.x_B)
    | (with_reducible apply Y.x_oB)
    | (with_reducible apply Y.g_not)
    | (with_reducible apply Y.g_and)
    | (with_reducible apply Y.g_or)
    | (with_reducible apply Y.g_enot)
    | (with_reducible apply Y.g_eand)
    | (with_reducible apply Y.g_eor)
    | (with_reducible apply Y.g_eif)
    | ((with_reducible apply Y.x_tup); (· walk_at "y_go"); (· exact Y.lsz rfl))
    | ((with_reducible apply Y.x_lst); (· walk_at "y_go"); (· exact Y.lsz rfl))
    | (with_reducible apply Y.x_frz)
    | (with_reducible apply Y.x_dget2)
    | (with_reducible apply Y.x_sl)
    | (with_reducible apply Y.x_pSome)
    | ((with_reducible apply Y.x_call); (· walk_at "y_go"); (· rfl))
    | ((with_reducible apply Y.x_meth); (· walk_at "y_go"); (· walk_at "y_lf"); (· walk_at "y_go"); (· rfl))
    | ((with_reducible apply Y.x_prop); (· walk_at "y_go"); (· walk_at "y_lf"))
    | ((with_reducible apply Y.x_callO); (· walk_at "y_go"); (· walk_at "y_lf"); (· walk_at "y_go"); (· rfl))
    | ((with_reducible apply Y.x_own); (· walk_at "y_go"); (· walk_at "y_go"); (· walk_at "y_lf"))
    | ((with_reducible apply Y.g_negO); (· walk_at "y_go"); (· walk_at "y_lf"))
    | ((with_reducible apply Y.x_make); (· walk_at "y_go"); (· rfl))
    | (with_reducible apply Y.x_star)
    | ((with_reducible apply Y.x_refC); (· walk_at "y_go"); (· walk_at "y_lf"); (· walk_at "y_lf"); (· walk_at "y_lf"))
    | ((with_reducible apply Y.g_par); (· walk_at "y_go"); (· walk_at "y_st"); (· walk_at "y_st"))
    | ((with_reducible apply Y.g_par3); (· walk_at "y_go"); (· walk_at "y_st"); (· walk_at "y_st"); (· walk_at "y_st"))
    | ((with_reducible apply Y.g_setO); (· walk_at "y_go"); (· walk_at "y_st"))
    | ((with_reducible apply Y.g_gset); walk_at "y_st")
    | (with_reducible apply Y.g_asg)
    | ((with_reducible apply Y.g_tup2); (· walk_at "y_st"); (· walk_at "y_st"))
    | ((with_reducible apply Y.g_tup3); (· walk_at "y_st"); (· walk_at "y_st"); (· walk_at "y_st"))
    | (with_reducible apply Y.x_for)
    | (with_reducible apply Y.x_any)
    | (with_reducible apply Y.x_by)
    | (with_reducible apply Y.x_enum)
    | walk_at "y_gl"
    | walk_at "y_lf"))
namespace Z
open PySem PySem.Spec PyProof.Rows L2 Y
theorem sc_L_open : FnScope ["_law_script", "_law_cells", "_law_mark", "_law_cell"] ["_law_script"] (defScope s_L_open) := ⟨rfl, rfl, rfl, by decide +kernel, rfl, by decide +kernel, by decide +kernel⟩
theorem sc_ParseError___init__ : FnScope ["self", "at"] ["self", "at"] (defScope s_ParseError___init__) := ⟨rfl, rfl, rfl, by decide +kernel, rfl, by decide +kernel, by decide +kernel⟩
theorem sc_L_refused : FnScope ["_law_ask", "_law_told", "e"] ["_law_ask"] (defScope s_L_refused) := ⟨rfl, rfl, rfl, by decide +kernel, rfl, by decide +kernel, by decide +kernel⟩
theorem sc_format_edit : FnScope ["edit", "words", "one"] ["edit"] (defScope s_format_edit) := ⟨rfl, rfl, rfl, by decide +kernel, rfl, by decide +kernel, by decide +kernel⟩
theorem sc_places : FnScope ["symbol", "number", "end"] [] (defScope s_places) := ⟨rfl, rfl, rfl, by decide +kernel, rfl, by decide +kernel, by decide +kernel⟩
theorem sc_shelf : FnScope ["found", "word", "symbol", "place"] [] (defScope s_shelf) := ⟨rfl, rfl, rfl, by decide +kernel, rfl, by decide +kernel, by decide +kernel⟩
theorem sc_L_spelled : FnScope ["_law_edit_here", "_law_words", "_law_one"] ["_law_edit_here"] (defScope s_L_spelled) := ⟨rfl, rfl, rfl, by decide +kernel, rfl, by decide +kernel, by decide +kernel⟩
theorem sc_L_draw : FnScope ["_law_box", "_law_many", "_law_cell", "_law_found"] ["_law_box", "_law_many"] (defScope s_L_draw) := ⟨rfl, rfl, rfl, by decide +kernel, rfl, by decide +kernel, by decide +kernel⟩
theorem sc_L_any : FnScope ["_law_box", "_law_things"] ["_law_box", "_law_things"] (defScope s_L_any) := ⟨rfl, rfl, rfl, by decide +kernel, rfl, by decide +kernel, by decide +kernel⟩
theorem sc_L_place : FnScope ["_law_box"] ["_law_box"] (defScope s_L_place) := ⟨rfl, rfl, rfl, by decide +kernel, rfl, by decide +kernel, by decide +kernel⟩
theorem sc_L_edit : FnScope ["_law_box", "_law_word", "_law_spot"] ["_law_box"] (defScope s_L_edit) := ⟨rfl, rfl, rfl, by decide +kernel, rfl, by decide +kernel, by decide +kernel⟩
theorem sc_L_whole : FnScope ["_law_found"] ["_law_found"] (defScope s_L_whole) := ⟨rfl, rfl, rfl, by decide +kernel, rfl, by decide +kernel, by decide +kernel⟩
theorem sc_L_same : FnScope ["_law_found", "_law_due", "_law_one", "_law_other"] ["_law_found", "_law_due"] (defScope s_L_same) := ⟨rfl, rfl, rfl, by decide +kernel, rfl, by decide +kernel, by decide +kernel⟩
theorem sc_L_places : FnScope ["_law_found", "_law_symbol", "_law_number"] [] (defScope s_L_places) := ⟨rfl, rfl, rfl, by decide +kernel, rfl, by decide +kernel, by decide +kernel⟩
theorem sc_L_shelf : FnScope ["_law_found", "_law_word", "_law_place_here"] [] (defScope s_L_shelf) := ⟨rfl, rfl, rfl, by decide +kernel, rfl, by decide +kernel, by decide +kernel⟩
theorem sc_L_spoilt : FnScope ["_law_box", "_law_text", "_law_words", "_law_at", "_law_odd", "_law_way"] ["_law_box", "_law_text"] (defScope s_L_spoilt) := ⟨rfl, rfl, rfl, by decide +kernel, rfl, by decide +kernel, by decide +kernel⟩
theorem sc_parse_edit : FnScope ["text", "edit"] ["text"] (defScope s_parse_edit) := ⟨rfl, rfl, rfl, by decide +kernel, rfl, by decide +kernel, by decide +kernel⟩
theorem sc_law : FnScope ["_law_script", "_law_box", "_law_texts", "_law_turn", "_law_asks", "_law_edit_here", "_law_text", "_law_bent", "_law_ask"] ["_law_script"] (defScope s_law) := ⟨rfl, rfl, rfl, by decide +kernel, rfl, by decide +kernel, by decide +kernel⟩
def la_law_0 : List LamI := lamsOf ("law" ++ ".<locals>." ++ "<lambda>") (stAt (defBody s_law) [3])
structure Top (P : Program) (w : World) (K : PySem.W.Frag) (mg : Str → Option Value) (base : Heap) (tb : List (Addr × Str)) : Prop where
  n_all : mg "all" = none
  n_bool : mg "bool" = none
  n_int : mg "int" = none
  n_isinstance : mg "isinstance" = none
  n_len : mg "len" = none
  n_list : mg "list" = none
  n_range : mg "range" = none
  n_str : mg "str" = none
  n_tuple : mg "tuple" = none
  n_zip : mg "zip" = none
  g_ENDS : Glb K mg "ENDS" (.tup [(.str "front"), (.str "back")])
  g_NUMBERS : Glb K mg "NUMBERS" (.tup [(.int 1), (.int 2)])
  g_SYMBOLS : Glb K mg "SYMBOLS" (.str "ab")
  ref : RefK K mg (clsOf mg tb) "_law_refused" refTbl
  ex_ParseError : ExF K mg "ParseError" "at" "ParseError.__init__" s_ParseError___init__
  d_L_open : Def K mg "_law_open" s_L_open ["_law_script"]
  d_format_edit : Def K mg "format_edit" s_format_edit ["edit"]
  d_places : Def K mg "places" s_places []
  d_shelf : Def K mg "shelf" s_shelf []
  d_L_spelled : Def K mg "_law_spelled" s_L_spelled ["_law_edit_here"]
  d_L_draw : Def K mg "_law_draw" s_L_draw ["_law_box", "_law_many"]
  d_L_any : Def K mg "_law_any" s_L_any ["_law_box", "_law_things"]
  d_L_place : Def K mg "_law_place" s_L_place ["_law_box"]
  d_L_edit : Def K mg "_law_edit" s_L_edit ["_law_box"]
  d_L_whole : Def K mg "_law_whole" s_L_whole ["_law_found"]
  d_L_same : Def K mg "_law_same" s_L_same ["_law_found", "_law_due"]
  d_L_places : Def K mg "_law_places" s_L_places []
  d_L_shelf : Def K mg "_law_shelf" s_L_shelf []
  d_L_spoilt : Def K mg "_law_spoilt" s_L_spoilt ["_law_box", "_law_text"]
  d_parse_edit : Def K mg "parse_edit" s_parse_edit ["text"]
  d_law : Def K mg "law" s_law ["_law_script"]
  lam_law : LamT K mg base tb "law" ("law" ++ ".<locals>." ++ "<lambda>")
def lb_format_edit_0 : SM := (sIf (tOf (e1 (mIsi "tuple") (eVar 2))) (sExtend 1 (eFrz (oLst (aCons (eBin mIx (eVar 2) (eC (.int 0))) (aCons (eB mStr (aCons (eBin mIx (eVar 2) (eC (.int 1))) aNil)) (aCons (eBin mIx (eVar 2) (eC (.int 2))) aNil)))))) (sAppend 1 (eVar 2)))
def g_format_edit : SM := (sSeq (sSetO 1 (oLst (aCons (eBin mIx (eVar 0) (eC (.int 0))) aNil)))
    (sSeq (sFor (iAny (eSl (eVar 0) (pSome (eC (.int 1))) pNone)) (gSet 2) lb_format_edit_0)
    (sFrz 1 (sRet (eM1 mJoin (eC (.str " ")) (eVar 1))))))
def m_format_edit : List D → Bx → R D := runF 1 3 g_format_edit

def plS (p : Pl) : List Str := [tx [p.c], toString (p.n : Int), endS p.fr]
def wordsE : Ed → List Str
  | .keep => ["keep"]
  | .pre c => ["prepend", tx [c]]
  | .app c => ["append", tx [c]]
  | .at_ (.bef c) p => ("before" : Str) :: plS p ++ [tx [c]]
  | .at_ (.aft c) p => ("after" : Str) :: plS p ++ [tx [c]]
  | .at_ .rem p => ("remove" : Str) :: plS p
  | .at_ .flp p => ("flip" : Str) :: plS p
/-- the text of an edit -/
def edS (e : Ed) : Str := Txt.join " " (wordsE e)

def g_places : SMO := (oRet (oLcB (iAny (eC (.str "ab"))) (gSet 0) [0, 1, 2] (lvlM (iAny (eC (.tup [(.int 1), (.int 2)]))) (gSet 1) [1, 2] (lvlM (iAny (eC (.tup [(.str "front"), (.str "back")]))) (gSet 2) [2] (appM (eTup (aCons (eVar 0) (aCons (eVar 1) (aCons (eVar 2) aNil)))))))))
def mO_places : List D → Bx → R (List D) := runFO 0 3 g_places
def m_places : List D → Bx → R D := frzM mO_places

def placesP : List Pl := [⟨97, 1, true⟩, ⟨97, 1, false⟩, ⟨97, 2, true⟩, ⟨97, 2, false⟩, ⟨98, 1, true⟩, ⟨98, 1, false⟩, ⟨98, 2, true⟩, ⟨98, 2, false⟩]
theorem placesO_ok (w : Bx) : mO_places [] w = .ok (placesP.map plD) w := by
  kernel_rfl

def lb_shelf_0 : SM := (sExtend 0 (eFrz (oLc (iAny (eC (.str "ab"))) (gSet 2) tYesM (eTup (aCons (eVar 1) (aCons (eVar 2) aNil))) [2])))
def lb_shelf_1 : SM := (sExtend 0 (eFrz (oLc2 (iAny (eCall 0 m_places aNil)) (gSet 3) tYesM (iAny (eC (.str "ab"))) (gSet 2) tYesM (eTup (aCons (eVar 1) (aCons (eVar 3) (aCons (eVar 2) aNil)))) [3, 2] [2])))
def lb_shelf_2 : SM := (sExtend 0 (eFrz (oLc (iAny (eCall 0 m_places aNil)) (gSet 3) tYesM (eTup (aCons (eVar 1) (aCons (eVar 3) aNil))) [3])))
def g_shelf : SMO := (oSeq (sSetO 0 (oLst (aCons (eTup (aCons (eC (.str "keep")) aNil)) aNil)))
    (oSeq (sFor (iAny (eTup (aCons (eC (.str "prepend")) (aCons (eC (.str "append")) aNil)))) (gSet 1) lb_shelf_0)
    (oSeq (sFor (iAny (eTup (aCons (eC (.str "before")) (aCons (eC (.str "after")) aNil)))) (gSet 1) lb_shelf_1)
    (oSeq (sFor (iAny (eTup (aCons (eC (.str "remove")) (aCons (eC (.str "flip")) aNil)))) (gSet 1) lb_shelf_2)
    (oRetV 0)))))
def mO_shelf : List D → Bx → R (List D) := runFO 0 4 g_shelf
def m_shelf : List D → Bx → R D := frzM mO_shelf

/-- the shelf -/
def shelfL : List Ed := .keep :: .pre 97 :: .pre 98 :: .app 97 :: .app 98 :: (placesP.flatMap fun p => [.at_ (.bef 97) p, .at_ (.bef 98) p]) ++ (placesP.flatMap fun p => [.at_ (.aft 97) p, .at_ (.aft 98) p]) ++ (placesP.map fun p => .at_ .rem p) ++ (placesP.map fun p => .at_ .flp p)
theorem shelf_len : shelfL.length = 53 := by decide +kernel
theorem shelfO_ok (w : Bx) : mO_shelf [] w = .ok (shelfL.map edD) w := by
  kernel_rfl
theorem shelf_ok (w : Bx) : m_shelf [] w = .ok (.lst (shelfL.map edD)) w := frz_ok (shelfO_ok w)
/-- what is drawn stands on the shelf -/
theorem mem_shelf {e : Ed} (h : Ed12 e) : e ∈ shelfL := by
  have pl : ∀ p : Pl, PlOk p → p.n ≤ 2 → p ∈ placesP := fun p h1 h2 => by
    obtain ⟨c, n, fr⟩ := p
    obtain ⟨a1, a2, a3⟩ := h1
    have hn : n = 1 ∨ n = 2 := by simp only at a2 h2; omega
    rcases a1 with a1 | a1 <;> (try simp only at a1) <;> subst a1 <;> rcases hn with rfl | rfl <;> cases fr <;> simp [placesP]
  unfold shelfL
  obtain ⟨h1, h2⟩ := h
  cases e with
  | keep => simp
  | pre c => rcases h1 with h1 | h1 <;> subst h1 <;> simp
  | app c => rcases h1 with h1 | h1 <;> subst h1 <;> simp
  | at_ k p =>
    have hp := pl p h1.2 h2
    have hk := h1.1
    cases k with
    | bef c =>
      simp only [List.mem_append, List.mem_cons, List.mem_flatMap, List.mem_map]
      refine .inl (.inl (.inl (.inr (.inr (.inr (.inr (.inr ⟨p, hp, ?_⟩)))))))
      rcases hk with hk | hk <;> subst hk <;> simp
    | aft c =>
      simp only [List.mem_append, List.mem_cons, List.mem_flatMap, List.mem_map]
      refine .inl (.inl (.inr ⟨p, hp, ?_⟩))
      rcases hk with hk | hk <;> subst hk <;> simp
    | rem =>
      simp only [List.mem_append, List.mem_cons, List.mem_flatMap, List.mem_map]
      exact .inl (.inr ⟨p, hp, rfl⟩)
    | flp =>
      simp only [List.mem_append, List.mem_cons, List.mem_flatMap, List.mem_map]
      exact .inr ⟨p, hp, rfl⟩
theorem at_shelf {α : Type} {f g : Ed → α} (h : shelfL.map f = shelfL.map g) {e : Ed} (he : e ∈ shelfL) : f e = g e := (List.map_inj_left.mp h) e he
theorem fmt_all (w : Bx) : (shelfL.map fun e => m_format_edit [edD e] w) = shelfL.map fun e => .ok (.str (edS e)) w := by
  kernel_rfl
theorem fmt_ok {e : Ed} (he : e ∈ shelfL) (w : Bx) : m_format_edit [edD e] w = .ok (.str (edS e)) w := at_shelf (fmt_all w) he
def txtOk (e : Ed) : Bool := PyData.strOk (edS e) && (decide ((edS e).length ≤ 30) && ((shelfL.find? fun x => decide (edS x = edS e)).isSome && (match mSplitS (.str (edS e)) (.str " ") with
  | some (.lst ds) => decide (0 < ds.length) && (decide (ds.length ≤ 5) && ds.all fun d => match d with
    | .str s => PyData.strOk s && decide (s.length ≤ 30)
    | _ => false)
  | _ => false)))
theorem txt_all : (shelfL.all fun e => txtOk e) = true := by decide +kernel
def distB : Bool := decide (shelfL.map edS).Nodup
theorem dist_all : distB = true := by decide +kernel

def lb_L_spelled_0 : SM := (sSet 1 (eBin mAdd (eVar 1) (eIf (tOf (e1 (mIsi "str") (eVar 2))) (eFrz (oLst (aCons (eVar 2) aNil))) (eFrz (oLst (aCons (eBin mIx (eVar 2) (eC (.int 0))) (aCons (eB mStr (aCons (eBin mIx (eVar 2) (eC (.int 1))) aNil)) (aCons (eBin mIx (eVar 2) (eC (.int 2))) aNil))))))))
def g_L_spelled : SM := (sSeq (sSet 1 (eFrz (oLst (aCons (eBin mIx (eVar 0) (eC (.int 0))) aNil))))
    (sSeq (sFor (iAny (eSl (eVar 0) (pSome (eC (.int 1))) pNone)) (gSet 2) lb_L_spelled_0)
    (sRet (eM1 mJoin (eC (.str " ")) (eVar 1)))))
def m_L_spelled : List D → Bx → R D := runF 1 3 g_L_spelled

theorem spl_all (w : Bx) : (shelfL.map fun e => m_L_spelled [edD e] w) = shelfL.map fun e => .ok (.str (edS e)) w := by
  kernel_rfl
theorem spl_ok {e : Ed} (he : e ∈ shelfL) (w : Bx) : m_L_spelled [edD e] w = .ok (.str (edS e)) w := at_shelf (spl_all w) he

def g_L_draw : SM := (sSeq (sIf (tAndM (tOf (eBin mEq (eBx 0 2) (eC (.int 0)))) (tOf (eBin mLt (eBx 0 1) (eB mLen (aCons (eBx 0 0) aNil))))) (sSeq (sSet 2 (eBin mIx (eBx 0 0) (eBx 0 1)))
    (sSeq (sBx 0 1 (eBin mAdd (eBx 0 1) (eC (.int 1))))
    (sIf (tOf (eBin (mI fun i j => decide (j ≤ i)) (eVar 2) (eBin mPow (eC (.int 10)) (eC (.int 18))))) (sBx 0 2 (eVar 2)) (sBx 0 3 (eBin mMod (eBin mAdd (eBin mAdd (eBin mMul (eBx 0 3) (eC (.int 69621))) (eBin mMod (eVar 2) (eC (.int 2147483563)))) (eBin mMul (eBx 0 1) (eC (.int 1597)))) (eC (.int 2147483647))))))) sNil)
    (sSeq (sIf (tOf (eBin (mI fun i j => decide (j < i)) (eBx 0 2) (eC (.int 0)))) (sSeq (sSet 3 (eBin mMod (eBx 0 2) (eVar 1)))
    (sSeq (sBx 0 2 (eBin mDiv (eBx 0 2) (eVar 1)))
    (sRet (eVar 3)))) sNil)
    (sSeq (sBx 0 3 (eBin mMod (eBin mAdd (eBin mMul (eBx 0 3) (eC (.int 48271))) (eC (.int 11))) (eC (.int 2147483647))))
    (sRet (eBin mMod (eBin mDiv (eBin mMod (eBin mMul (eBx 0 3) (eBx 0 3)) (eC (.int 998244353))) (eC (.int 13))) (eVar 1))))))
def m_L_draw : List D → Bx → R D := runF 2 4 g_L_draw

theorem pow18 : ∃ c : Int, mPow (.int 10) (.int 18) = some (.int c) ∧ 0 ≤ c := by
  refine ⟨(10 : Int) ^ (18 : Int).toNat, ?_, by decide⟩
  have e : mPow (.int 10) (.int 18) = if (0 : Int) ≤ 18 ∧ (18 : Int) ≤ 1000000 ∧ (10 : Int).natAbs < 2 ^ 64 then some (.int ((10 : Int) ^ (18 : Int).toNat)) else none := rfl
  rw [e, if_pos ⟨by decide, by decide, by decide⟩]
def drawTail : SM := (sSeq (sIf (tOf (eBin (mI fun i j => decide (j < i)) (eBx 0 2) (eC (.int 0)))) (sSeq (sSet 3 (eBin mMod (eBx 0 2) (eVar 1)))
    (sSeq (sBx 0 2 (eBin mDiv (eBx 0 2) (eVar 1)))
    (sRet (eVar 3)))) sNil)
    (sSeq (sBx 0 3 (eBin mMod (eBin mAdd (eBin mMul (eBx 0 3) (eC (.int 48271))) (eC (.int 11))) (eC (.int 2147483647))))
    (sRet (eBin mMod (eBin mDiv (eBin mMod (eBin mMul (eBx 0 3) (eBx 0 3)) (eC (.int 998244353))) (eC (.int 13))) (eVar 1)))))
theorem draw_tail (n : Int) (h0 : 0 < n) (h1 : n < 1073741824) (x : Option SV) (w : Bx) : ∃ r w', drawTail [some (.dat .box), some (.dat (.int n)), x, none] w = .rt (.int r) w' ∧ 0 ≤ r ∧ r < n := by
  by_cases hb : 0 < w.big
  · refine ⟨w.big % n, { w with big := w.big / n }, ?_, Int.emod_nonneg _ (by omega), Int.emod_lt_of_pos _ h0⟩
    have hd : 0 ≤ w.big / n := Int.ediv_nonneg (by omega) (by omega)
    simp [drawTail, sSeq, sIf, sSet, sBx, sRet, tOf, eBin, eBx, eVar, eC, mMod, mDiv, mI, isBox, bxGet, bxPut, hb, h0, h1, hd]
  · have hm0 : 0 ≤ (w.mark * 48271 + 11) % 2147483647 := Int.emod_nonneg _ (by decide)
    have hm1 : (w.mark * 48271 + 11) % 2147483647 < 2147483647 := Int.emod_lt_of_pos _ (by decide)
    refine ⟨((w.mark * 48271 + 11) % 2147483647) * ((w.mark * 48271 + 11) % 2147483647) % 998244353 / 13 % n, { w with mark := (w.mark * 48271 + 11) % 2147483647 }, ?_, Int.emod_nonneg _ (by omega), Int.emod_lt_of_pos _ h0⟩
    · have e1 : (-18446744073709551616 < (w.mark * 48271 + 11) % 2147483647) := by omega
      have e2 : ((w.mark * 48271 + 11) % 2147483647 < 18446744073709551616) := by omega
      simp [drawTail, sSeq, sIf, sSet, sBx, sRet, sNil, tOf, eBin, eBx, eVar, eC, mMod, mDiv, mAdd, mMul, mI, isBox, bxGet, bxPut, hb, h0, hm0, hm1, e1, e2]
theorem draw_ok (w : Bx) (n : Int) (h0 : 0 < n) (h1 : n < 1073741824) : ∃ r w', m_L_draw [.box, .int n] w = .ok (.int r) w' ∧ 0 ≤ r ∧ r < n := by
  obtain ⟨c, p18, c0⟩ := pow18
  have e2 : eBx 0 2 [some (.dat .box), some (.dat (.int n)), none, none] w = .ok (.int w.big) w := rfl
  have e1 : eBx 0 1 [some (.dat .box), some (.dat (.int n)), none, none] w = .ok (.int (w.ix : Int)) w := rfl
  have e0 : eBx 0 0 [some (.dat .box), some (.dat (.int n)), none, none] w = .ok (.lst (w.cells.map D.int)) w := rfl
  have hlen : mLen [.lst (w.cells.map D.int)] = some (.int (w.cells.length : Int)) := by simp [mLen]
  have fin : ∀ (x : Option SV) (w1 : Bx), g_L_draw [some (.dat .box), some (.dat (.int n)), none, none] w = drawTail [some (.dat .box), some (.dat (.int n)), x, none] w1 → ∃ r w', m_L_draw [.box, .int n] w = .ok (.int r) w' ∧ 0 ≤ r ∧ r < n := fun x w1 e => by
    obtain ⟨r, w2, e2, h⟩ := draw_tail n h0 h1 x w1
    exact ⟨r, w2, x_run rfl (e.trans e2), h⟩
  by_cases h2 : w.big = 0
  · have t1 : tOf (eBin mEq (eBx 0 2) (eC (.int 0))) [some (.dat .box), some (.dat (.int n)), none, none] w = .ok true w := by
      refine x_tOf (x_bin e2 rfl ?_)
      simp [mEq, eqB, h2]
    by_cases h3 : w.ix < w.cells.length
    · have t2 : tOf (eBin mLt (eBx 0 1) (eB mLen (aCons (eBx 0 0) aNil))) [some (.dat .box), some (.dat (.int n)), none, none] w = .ok true w := by
        refine x_tOf (x_bin e1 (x_B (x_cons e0 x_nil) hlen) ?_)
        simp [mLt, h3]
      have hg : mIx (.lst (w.cells.map D.int)) (.int (w.ix : Int)) = some (.int w.cells[w.ix]) := atI_nat (by rw [List.getElem?_map, List.getElem?_eq_getElem h3]; rfl)
      have s1 : sSet 2 (eBin mIx (eBx 0 0) (eBx 0 1)) [some (.dat .box), some (.dat (.int n)), none, none] w = .nx [some (.dat .box), some (.dat (.int n)), some (.dat (.int w.cells[w.ix])), none] w := x_set (x_bin e0 e1 hg)
      have s2 : sBx 0 1 (eBin mAdd (eBx 0 1) (eC (.int 1))) [some (.dat .box), some (.dat (.int n)), some (.dat (.int w.cells[w.ix])), none] w = .nx [some (.dat .box), some (.dat (.int n)), some (.dat (.int w.cells[w.ix])), none] { w with ix := w.ix + 1 } := by
        refine x_sbx (x_bin (d := .int (w.ix : Int)) (e := .int 1) (z := .int ((w.ix : Int) + 1)) rfl rfl rfl) rfl ?_
        have q : (((w.ix : Int) + 1).toNat) = w.ix + 1 := by omega
        have q0 : 0 ≤ (w.ix : Int) + 1 := by omega
        simp [bxPut, q, q0]
      by_cases h4 : c ≤ w.cells[w.ix]
      · refine fin (some (.dat (.int w.cells[w.ix]))) { w with ix := w.ix + 1, big := w.cells[w.ix] } ?_
        refine x_seq (x_ifT (x_andT t1 t2) (x_seq s1 (x_seq s2 (x_ifT (x_tOf (x_bin rfl (x_bin rfl rfl p18) ?_)) (x_sbx rfl rfl ?_))))) rfl
        · simp [mI, h4]
        · have h5 : 0 ≤ w.cells[w.ix] := by omega
          simp [bxPut, h5]
      · refine fin (some (.dat (.int w.cells[w.ix]))) { w with ix := w.ix + 1, mark := (w.mark * 69621 + w.cells[w.ix] % 2147483563 + ((w.ix : Int) + 1) * 1597) % 2147483647 } ?_
        refine x_seq (x_ifT (x_andT t1 t2) (x_seq s1 (x_seq s2 (x_ifF (x_tOf (x_bin rfl (x_bin rfl rfl p18) ?_)) (x_sbx (x_bin (x_bin (x_bin (x_bin (d := .int w.mark) (e := .int 69621) rfl rfl (z := .int (w.mark * 69621)) ?_) (x_bin (d := .int w.cells[w.ix]) (e := .int 2147483563) rfl rfl (z := .int (w.cells[w.ix] % 2147483563)) ?_) (z := .int (w.mark * 69621 + w.cells[w.ix] % 2147483563)) rfl) (x_bin (d := .int ((w.ix : Int) + 1)) (e := .int 1597) rfl rfl (z := .int (((w.ix : Int) + 1) * 1597)) ?_) (z := .int (w.mark * 69621 + w.cells[w.ix] % 2147483563 + ((w.ix : Int) + 1) * 1597)) rfl) (e := .int 2147483647) (z := .int ((w.mark * 69621 + w.cells[w.ix] % 2147483563 + ((w.ix : Int) + 1) * 1597) % 2147483647)) rfl ?_) rfl ?_))))) rfl
        · simp [mI, h4]
        · simp [mMul]
        · simp [mMod]
        · simp [mMul]
        · simp [mMod]
        · have hm0 : 0 ≤ (w.mark * 69621 + w.cells[w.ix] % 2147483563 + ((w.ix : Int) + 1) * 1597) % 2147483647 := Int.emod_nonneg _ (by decide)
          have hm1 : (w.mark * 69621 + w.cells[w.ix] % 2147483563 + ((w.ix : Int) + 1) * 1597) % 2147483647 < 2147483647 := Int.emod_lt_of_pos _ (by decide)
          simp [bxPut, hm0, hm1]
    · have t2 : tOf (eBin mLt (eBx 0 1) (eB mLen (aCons (eBx 0 0) aNil))) [some (.dat .box), some (.dat (.int n)), none, none] w = .ok false w := by
        refine x_tOf (x_bin e1 (x_B (x_cons e0 x_nil) hlen) ?_)
        simp [mLt, h3]
      exact fin none w (x_seq (x_ifF (x_andT t1 t2) rfl) rfl)
  · have t1 : tOf (eBin mEq (eBx 0 2) (eC (.int 0))) [some (.dat .box), some (.dat (.int n)), none, none] w = .ok false w := by
      refine x_tOf (x_bin e2 rfl ?_)
      simp [mEq, eqB, h2]
    exact fin none w (x_seq (x_ifF (x_andF t1) rfl) rfl)

def g_L_any : SM := (sRet (eBin mIx (eVar 1) (eCall 2 m_L_draw (aCons (eVar 0) (aCons (eB mLen (aCons (eVar 1) aNil)) aNil)))))
def m_L_any : List D → Bx → R D := runF 2 2 g_L_any

theorem any_lst (w : Bx) (ds : List D) (h0 : ds ≠ []) (h1 : ds.length < 1073741824) : ∃ d w', d ∈ ds ∧ m_L_any [.box, .lst ds] w = .ok d w' := by
  have hp : 0 < ds.length := List.length_pos_iff.mpr h0
  obtain ⟨r, w', e, r0, r1⟩ := draw_ok w (ds.length : Int) (by omega) (by omega)
  have hr : r.toNat < ds.length := by omega
  have hx : mIx (.lst ds) (.int r) = some ds[r.toNat] := at_int r0 hr
  exact ⟨ds[r.toNat], w', List.getElem_mem hr, x_run rfl (x_ret (x_bin rfl (x_call (x_cons rfl (x_cons (x_B (x_cons rfl x_nil) rfl) x_nil)) rfl e) hx))⟩
theorem any_str (w : Bx) (l : List Nat) (h0 : l ≠ []) (h1 : l.length ≤ 16777216) : ∃ c w', c ∈ l ∧ m_L_any [.box, .str (tx l)] w = .ok (.str (tx [c])) w' := by
  have hp : 0 < l.length := List.length_pos_iff.mpr h0
  obtain ⟨r, w', e, r0, r1⟩ := draw_ok w (l.length : Int) (by omega) (by omega)
  have hr : r.toNat < l.length := by omega
  have hx : mIx (.str (tx l)) (.int r) = some (.str (tx [l[r.toNat]])) := by
    unfold mIx
    simp only [tx_len, tx_list]
    rw [if_pos (show l.length ≤ sizeN from h1), at_int r0 hr]
    rfl
  have hl : mLen [.str (tx l)] = some (.int (l.length : Int)) := by
    unfold mLen
    simp only [tx_len]
    rw [if_pos (show l.length ≤ sizeN from h1)]
  exact ⟨l[r.toNat], w', List.getElem_mem hr, x_run rfl (x_ret (x_bin rfl (x_call (x_cons rfl (x_cons (x_B (x_cons rfl x_nil) hl) x_nil)) rfl e) hx))⟩

def g_L_place : SM := (sRet (eTup (aCons (eCall 2 m_L_any (aCons (eVar 0) (aCons (eC (.str "ab")) aNil))) (aCons (eBin mAdd (eC (.int 1)) (eCall 2 m_L_draw (aCons (eVar 0) (aCons (eC (.int 2)) aNil)))) (aCons (eCall 2 m_L_any (aCons (eVar 0) (aCons (eFrz (oLst (aCons (eC (.str "front")) (aCons (eC (.str "back")) aNil)))) aNil))) aNil)))))
def m_L_place : List D → Bx → R D := runF 1 1 g_L_place

theorem place_ok (w : Bx) : ∃ p w', m_L_place [.box] w = .ok (plD p) w' ∧ PlOk p ∧ p.n ≤ 2 := by
  obtain ⟨c, w1, hc, e1⟩ := any_str w [97, 98] (by simp) (by simp)
  obtain ⟨r, w2, e2, r0, r1⟩ := draw_ok w1 2 (by decide) (by decide)
  obtain ⟨d, w3, hd, e3⟩ := any_lst w2 [.str "front", .str "back"] (by simp) (by simp)
  obtain ⟨fr, rfl⟩ : ∃ fr, d = .str (endS fr) := by
    simp only [List.mem_cons, List.not_mem_nil, or_false] at hd
    rcases hd with rfl | rfl
    · exact ⟨true, rfl⟩
    · exact ⟨false, rfl⟩
  obtain ⟨n, rfl⟩ : ∃ n : Nat, r = n := ⟨r.toNat, by omega⟩
  refine ⟨⟨c, n + 1, fr⟩, w3, ?_, ⟨by simpa [AB] using hc, by simp, by show n + 1 ≤ 3; omega⟩, by show n + 1 ≤ 2; omega⟩
  refine x_run rfl (x_ret ?_)
  rw [← lit_ab] at e1
  have h1 : mAdd (.int 1) (.int (n : Int)) = some (.int ((n + 1 : Nat) : Int)) := by simp [mAdd]; omega
  walk_at "y_ev"

def g_L_edit : SM := (sSeq (sSet 1 (eCall 2 m_L_any (aCons (eVar 0) (aCons (eFrz (oLst (aCons (eC (.str "keep")) (aCons (eC (.str "prepend")) (aCons (eC (.str "append")) (aCons (eC (.str "before")) (aCons (eC (.str "after")) (aCons (eC (.str "remove")) (aCons (eC (.str "flip")) (aCons (eC (.str "remove")) (aCons (eC (.str "flip")) aNil))))))))))) aNil))))
    (sSeq (sIf (tOf (eBin mEq (eVar 1) (eC (.str "keep")))) (sRet (eTup (aCons (eVar 1) aNil))) sNil)
    (sSeq (sIf (tOf (eBin mIn (eVar 1) (eTup (aCons (eC (.str "prepend")) (aCons (eC (.str "append")) aNil))))) (sRet (eTup (aCons (eVar 1) (aCons (eCall 2 m_L_any (aCons (eVar 0) (aCons (eC (.str "ab")) aNil))) aNil)))) sNil)
    (sSeq (sSet 2 (eCall 1 m_L_place (aCons (eVar 0) aNil)))
    (sRet (eIf (tOf (eBin mIn (eVar 1) (eTup (aCons (eC (.str "before")) (aCons (eC (.str "after")) aNil))))) (eTup (aCons (eVar 1) (aCons (eVar 2) (aCons (eCall 2 m_L_any (aCons (eVar 0) (aCons (eC (.str "ab")) aNil))) aNil)))) (eTup (aCons (eVar 1) (aCons (eVar 2) aNil)))))))))
def m_L_edit : List D → Bx → R D := runF 1 3 g_L_edit

theorem edit_ok2 (w : Bx) : ∃ e w', m_L_edit [.box] w = .ok (edD e) w' ∧ EdOk e ∧ Ed2 e := by
  obtain ⟨d, w1, hd, e1⟩ := any_lst w [.str "keep", .str "prepend", .str "append", .str "before", .str "after", .str "remove", .str "flip", .str "remove", .str "flip"] (by simp) (by simp)
  obtain ⟨c, w2, hc, e2⟩ := any_str w1 [97, 98] (by simp) (by simp)
  obtain ⟨p, w3, e3, hp, hp2⟩ := place_ok w1
  obtain ⟨c4, w4, hc4, e4⟩ := any_str w3 [97, 98] (by simp) (by simp)
  rw [← lit_ab] at e2 e4
  have hc : AB c := by simpa [AB] using hc
  have hc4 : AB c4 := by simpa [AB] using hc4
  simp only [List.mem_cons, List.not_mem_nil, or_false] at hd
  rcases hd with rfl | rfl | rfl | rfl | rfl | rfl | rfl | rfl | rfl
  · exact ⟨.keep, w1, x_run rfl (by unfold g_L_edit; walk_at "y_ev"), trivial, trivial⟩
  · exact ⟨.pre c, w2, x_run rfl (by unfold g_L_edit; walk_at "y_ev"), hc, trivial⟩
  · exact ⟨.app c, w2, x_run rfl (by unfold g_L_edit; walk_at "y_ev"), hc, trivial⟩
  · exact ⟨.at_ (.bef c4) p, w4, x_run rfl (by unfold g_L_edit; walk_at "y_ev"), ⟨hc4, hp⟩, hp2⟩
  · exact ⟨.at_ (.aft c4) p, w4, x_run rfl (by unfold g_L_edit; walk_at "y_ev"), ⟨hc4, hp⟩, hp2⟩
  · exact ⟨.at_ .rem p, w3, x_run rfl (by unfold g_L_edit; walk_at "y_ev"), ⟨trivial, hp⟩, hp2⟩
  · exact ⟨.at_ .flp p, w3, x_run rfl (by unfold g_L_edit; walk_at "y_ev"), ⟨trivial, hp⟩, hp2⟩
  · exact ⟨.at_ .rem p, w3, x_run rfl (by unfold g_L_edit; walk_at "y_ev"), ⟨trivial, hp⟩, hp2⟩
  · exact ⟨.at_ .flp p, w3, x_run rfl (by unfold g_L_edit; walk_at "y_ev"), ⟨trivial, hp⟩, hp2⟩
theorem edit_ok (w : Bx) : ∃ e w', m_L_edit [.box] w = .ok (edD e) w' ∧ EdOk e := let ⟨e, w', h1, h2, _⟩ := edit_ok2 w; ⟨e, w', h1, h2⟩

def g_L_whole : SM := (sRet (eAndM (e1 (mIsi "int") (eVar 0)) (eNotM (e1 (mIsi "bool") (eVar 0)))))
def m_L_whole : List D → Bx → R D := runF 1 1 g_L_whole

def isInt : D → Bool
  | .int _ => true
  | _ => false
theorem whole_ok {d : D} (h : nice1 d) (w : Bx) : m_L_whole [d] w = .ok (.bl (isInt d)) w := by
  cases d with
  | str s => exact show m_L_whole [_] w = .ok (.bl false) w from x_run rfl (by unfold g_L_whole; walk_at "y_ev")
  | non => exact show m_L_whole [_] w = .ok (.bl false) w from x_run rfl (by unfold g_L_whole; walk_at "y_ev")
  | bl b => exact show m_L_whole [_] w = .ok (.bl false) w from x_run rfl (by unfold g_L_whole; walk_at "y_ev")
  | int b => exact show m_L_whole [_] w = .ok (.bl true) w from x_run rfl (by unfold g_L_whole; walk_at "y_ev")
  | lst b => exact show m_L_whole [_] w = .ok (.bl false) w from x_run rfl (by unfold g_L_whole; walk_at "y_ev")
  | tup b => exact show m_L_whole [_] w = .ok (.bl false) w from x_run rfl (by unfold g_L_whole; walk_at "y_ev")
  | box => obtain ⟨p, e⟩ := h; cases (shp_some e).1
  | obj _ _ => obtain ⟨p, e⟩ := h; have := (shp_some e).1; rw [toPy] at this; cases this
  | dct _ => obtain ⟨p, e⟩ := h; have := (shp_some e).1; rw [toPy] at this; cases this
  | cel _ => obtain ⟨p, e⟩ := h; have := (shp_some e).1; rw [toPy] at this; cases this

def g_L_same (mr : List D → Bx → R D) : SM := (sSeq (sIf (tOf (eBin mIs (eVar 1) (eC .non))) (sRet (eBin mIs (eVar 0) (eC .non))) sNil)
    (sSeq (sIf (tOf (e1 (mIsi "bool") (eVar 1))) (sRet (eAndM (e1 (mIsi "bool") (eVar 0)) (eBin mEq (eVar 0) (eVar 1)))) sNil)
    (sSeq (sIf (tOf (e1 (mIsi "int") (eVar 1))) (sRet (eAndM (eCall 1 m_L_whole (aCons (eVar 0) aNil)) (eBin mEq (eVar 0) (eVar 1)))) sNil)
    (sSeq (sIf (tOf (e1 (mIsi "str") (eVar 1))) (sRet (eAndM (e1 (mIsi "str") (eVar 0)) (eBin mEq (eVar 0) (eVar 1)))) sNil)
    (sSeq (sIf (tAndM (tOf (e1 (mIsi "tuple") (eVar 1))) (tNotM (tOf (e1 (mIsi "tuple") (eVar 0))))) (sRet (eC (.bl false))) sNil)
    (sSeq (sIf (tAndM (tOf (e1 (mIsi "list") (eVar 1))) (tNotM (tOf (e1 (mIsi "list") (eVar 0))))) (sRet (eC (.bl false))) sNil)
    (sRet (eAndM (eBin mEq (eB mLen (aCons (eVar 0) aNil)) (eB mLen (aCons (eVar 1) aNil))) (eB mAll (aCons (eFrz (oLc (iBy zipOf (aCons (eVar 0) (aCons (eVar 1) aNil))) (gTupM (gsCons (gSet 2) (gsCons (gSet 3) gsNil))) tYesM (eCall 2 mr (aCons (eVar 2) (aCons (eVar 3) aNil))) [2, 3])) aNil))))))))))

theorem mSame_zero (ds : List D) (w : Bx) : mSame 0 ds w = .bad := by
  unfold mSame
  split
  · simp [sameD]
  · rfl
theorem all_true (n : Nat) : blsOf (List.replicate n (D.bl true)) = some (List.replicate n true) := by
  induction n with
  | zero => rfl
  | succ n ih => rw [List.replicate_succ, blsOf, ih]; rfl
theorem all_reps (n : Nat) : (List.replicate n true).all id = true := by
  induction n with
  | zero => rfl
  | succ n ih => rw [List.replicate_succ, List.all_cons, ih]; rfl
theorem zip_same (k : Nat) (S : SL) (hS : S.length = 4) (w : Bx) : ∀ (a b : List D), ((a.zip b).all fun p => sameD k p.1 p.2) = true →
    lcLoop (gTupM (gsCons (gSet 2) (gsCons (gSet 3) gsNil))) tYesM (eCall 2 (mSame k) (aCons (eVar 2) (aCons (eVar 3) aNil))) S (zipD a b) w = .ok (List.replicate (a.zip b).length (.bl true)) w
  | [], _, _ => rfl
  | _ :: _, [], _ => rfl
  | x :: a, y :: b, h => by
    rw [List.zip_cons_cons, List.all_cons, Bool.and_eq_true] at h
    have ih := zip_same k S hS w a b h.2
    obtain ⟨s0, s1, s2, s3, rfl⟩ : ∃ s0 s1 s2 s3, S = [s0, s1, s2, s3] := by
      match S, hS with
      | [s0, s1, s2, s3], _ => exact ⟨s0, s1, s2, s3, rfl⟩
    refine x_lcC (e := .bl true) (w2 := w) rfl rfl ?_ ih
    refine x_call (x_cons rfl (x_cons rfl x_nil)) rfl ?_
    show (if sameD k x y then R.ok (D.bl true) w else .bad) = _
    rw [if_pos h.1]
theorem same_len {α : Type} {a b : List α} (h : (a.length == b.length) = true) : (a.zip b).length = a.length := by
  have : a.length = b.length := eq_of_beq h
  rw [List.length_zip]; omega
theorem same_ok (k : Nat) : ∀ ds w, mSame (k + 1) ds w ≠ .bad → runF 2 4 (g_L_same (mSame k)) ds w = mSame (k + 1) ds w := by
  intro ds w h
  match ds, h with
  | [d, e], h =>
    have hs : sameD (k + 1) d e = true := by
      cases hq : sameD (k + 1) d e with
      | true => rfl
      | false =>
        have : mSame (k + 1) [d, e] w = .bad := by show (if sameD (k + 1) d e then R.ok (D.bl true) w else .bad) = _; rw [hq]; rfl
        exact absurd this h
    have hr : mSame (k + 1) [d, e] w = .ok (.bl true) w := by show (if sameD (k + 1) d e then R.ok (D.bl true) w else .bad) = _; rw [if_pos hs]
    rw [hr]
    cases d <;> cases e <;> first | (exact absurd (show false = true from hs) Bool.false_ne_true) | skip
    case non.non => exact x_run rfl (x_seqR (x_ifT (x_tOf (x_bin rfl rfl rfl)) (x_ret (x_bin rfl rfl rfl))))
    case bl.bl a b =>
      have e : a = b := eq_of_beq hs
      subst e
      refine x_run rfl (x_seq (x_ifF (x_tOf (x_bin rfl rfl rfl)) rfl) (x_seqR (x_ifT (x_tOf (x_e1 rfl rfl)) (x_ret (x_eandT (x_e1 rfl rfl) (x_bin rfl rfl ?_))))))
      simp [mEq, eqB]
    case int.int a b =>
      have e : a = b := eq_of_beq hs
      subst e
      refine x_run rfl (x_seq (x_ifF (x_tOf (x_bin rfl rfl rfl)) rfl) (x_seq (x_ifF (x_tOf (x_e1 rfl rfl)) rfl) (x_seqR (x_ifT (x_tOf (x_e1 rfl rfl)) (x_ret (x_eandT (x_call (x_cons rfl x_nil) rfl (r := .ok (.bl true) w) ?_) (x_bin rfl rfl ?_)))))))
      · exact x_run rfl (x_ret (x_eandT (x_e1 rfl rfl) (x_enotF (x_e1 rfl rfl))))
      · simp [mEq, eqB]
    case str.str a b =>
      have e : a = b := eq_of_beq hs
      subst e
      refine x_run rfl (x_seq (x_ifF (x_tOf (x_bin rfl rfl rfl)) rfl) (x_seq (x_ifF (x_tOf (x_e1 rfl rfl)) rfl) (x_seq (x_ifF (x_tOf (x_e1 rfl rfl)) rfl) (x_seqR (x_ifT (x_tOf (x_e1 rfl rfl)) (x_ret (x_eandT (x_e1 rfl rfl) (x_bin rfl rfl ?_))))))))
      simp [mEq, eqB]
    case lst.lst a b =>
      have h2 : ((a.length == b.length && decide (a.length ≤ sizeN)) && (a.zip b).all fun p => sameD k p.1 p.2) = true := hs
      rw [Bool.and_eq_true, Bool.and_eq_true] at h2
      have hl : a.length = b.length := eq_of_beq h2.1.1
      have hz : a.length ≤ sizeN := of_decide_eq_true h2.1.2
      refine x_run rfl (x_seq (x_ifF (x_tOf (x_bin rfl rfl rfl)) rfl) (x_seq (x_ifF (x_tOf (x_e1 rfl rfl)) rfl) (x_seq (x_ifF (x_tOf (x_e1 rfl rfl)) rfl) (x_seq (x_ifF (x_tOf (x_e1 rfl rfl)) rfl) (x_seq (x_ifF (x_andF (x_tOf (x_e1 rfl rfl))) rfl) (x_seq (x_ifF (x_andT (x_tOf (x_e1 rfl rfl)) (x_notT (x_tOf (x_e1 rfl rfl)))) rfl) (x_ret (x_eandT (x_bin (x_B (x_cons rfl x_nil) rfl) (x_B (x_cons rfl x_nil) rfl) ?_) (x_B (x_cons (x_frz (x_lc (x_by (x_cons rfl (x_cons rfl x_nil)) rfl) ?_ (zip_same k _ rfl w a b h2.2))) x_nil) ?_)))))))))
      · simp [mEq, eqB, hl]
      · simp only [zipD, List.length_map, List.length_zip]; omega
      · show (blsOf _).map _ = _
        rw [all_true]
        simp [all_reps]
    case tup.tup a b =>
      have h2 : ((a.length == b.length && decide (a.length ≤ sizeN)) && (a.zip b).all fun p => sameD k p.1 p.2) = true := hs
      rw [Bool.and_eq_true, Bool.and_eq_true] at h2
      have hl : a.length = b.length := eq_of_beq h2.1.1
      have hz : a.length ≤ sizeN := of_decide_eq_true h2.1.2
      refine x_run rfl (x_seq (x_ifF (x_tOf (x_bin rfl rfl rfl)) rfl) (x_seq (x_ifF (x_tOf (x_e1 rfl rfl)) rfl) (x_seq (x_ifF (x_tOf (x_e1 rfl rfl)) rfl) (x_seq (x_ifF (x_tOf (x_e1 rfl rfl)) rfl) (x_seq (x_ifF (x_andT (x_tOf (x_e1 rfl rfl)) (x_notT (x_tOf (x_e1 rfl rfl)))) rfl) (x_seq (x_ifF (x_andF (x_tOf (x_e1 rfl rfl))) rfl) (x_ret (x_eandT (x_bin (x_B (x_cons rfl x_nil) rfl) (x_B (x_cons rfl x_nil) rfl) ?_) (x_B (x_cons (x_frz (x_lc (x_by (x_cons rfl (x_cons rfl x_nil)) rfl) ?_ (zip_same k _ rfl w a b h2.2))) x_nil) ?_)))))))))
      · simp [mEq, eqB, hl]
      · simp only [zipD, List.length_map, List.length_zip]; omega
      · show (blsOf _).map _ = _
        rw [all_true]
        simp [all_reps]
  | [], h => exact absurd rfl h
  | [_], h => exact absurd rfl h
  | _ :: _ :: _ :: _, h => exact absurd rfl h

def lb_L_places_0 : SM := (sSet 0 (eBin mAdd (eVar 0) (eFrz (oLst (aCons (eTup (aCons (eVar 1) (aCons (eVar 2) (aCons (eC (.str "front")) aNil)))) (aCons (eTup (aCons (eVar 1) (aCons (eVar 2) (aCons (eC (.str "back")) aNil)))) aNil))))))
def lb_L_places_1 : SM := (sFor (iAny (eTup (aCons (eC (.int 1)) (aCons (eC (.int 2)) aNil)))) (gSet 2) lb_L_places_0)
def g_L_places : SM := (sSeq (sSet 0 (eFrz (oLst aNil)))
    (sSeq (sFor (iAny (eC (.str "ab"))) (gSet 1) lb_L_places_1)
    (sRet (eVar 0))))
def m_L_places : List D → Bx → R D := runF 0 3 g_L_places

def placesL : List (Nat × Nat × Bool) := [(97, 1, true), (97, 1, false), (97, 2, true), (97, 2, false), (98, 1, true), (98, 1, false), (98, 2, true), (98, 2, false)]
theorem places_ok (w : Bx) : m_L_places [] w = .ok (.lst (placesL.map fun p => placeD p.1 p.2.1 p.2.2)) w := by
  kernel_rfl

def lb_L_shelf_0 : SM := (sSet 0 (eBin mAdd (eVar 0) (eFrz (oLst (aCons (eTup (aCons (eVar 1) (aCons (eVar 2) (aCons (eC (.str "a")) aNil)))) (aCons (eTup (aCons (eVar 1) (aCons (eVar 2) (aCons (eC (.str "b")) aNil)))) aNil))))))
def lb_L_shelf_1 : SM := (sFor (iAny (eCall 0 m_L_places aNil)) (gSet 2) lb_L_shelf_0)
def lb_L_shelf_2 : SM := (sSet 0 (eBin mAdd (eVar 0) (eFrz (oLc (iAny (eCall 0 m_L_places aNil)) (gSet 2) tYesM (eTup (aCons (eVar 1) (aCons (eVar 2) aNil))) [2]))))
def g_L_shelf : SM := (sSeq (sSet 0 (eFrz (oLst (aCons (eTup (aCons (eC (.str "keep")) aNil)) (aCons (eTup (aCons (eC (.str "prepend")) (aCons (eC (.str "a")) aNil))) (aCons (eTup (aCons (eC (.str "prepend")) (aCons (eC (.str "b")) aNil))) (aCons (eTup (aCons (eC (.str "append")) (aCons (eC (.str "a")) aNil))) (aCons (eTup (aCons (eC (.str "append")) (aCons (eC (.str "b")) aNil))) aNil))))))))
    (sSeq (sFor (iAny (eTup (aCons (eC (.str "before")) (aCons (eC (.str "after")) aNil)))) (gSet 1) lb_L_shelf_1)
    (sSeq (sFor (iAny (eTup (aCons (eC (.str "remove")) (aCons (eC (.str "flip")) aNil)))) (gSet 1) lb_L_shelf_2)
    (sRet (eVar 0)))))
def m_L_shelf : List D → Bx → R D := runF 0 3 g_L_shelf

theorem lshelf_ok (w : Bx) : m_L_shelf [] w = .ok (.lst (shelfL.map edD)) w := by
  kernel_rfl

def g_L_spoilt : SM := (sSeq (sSet 2 (eM1 mSplitS (eVar 1) (eC (.str " "))))
    (sSeq (sSet 3 (eCall 2 m_L_draw (aCons (eVar 0) (aCons (eB mLen (aCons (eVar 2) aNil)) aNil))))
    (sSeq (sSet 4 (eCall 2 m_L_any (aCons (eVar 0) (aCons (eFrz (oLst (aCons (eC (.str "a")) (aCons (eC (.str "b")) (aCons (eC (.str "1")) (aCons (eC (.str "2")) (aCons (eC (.str "3")) (aCons (eC (.str "01")) (aCons (eC (.str "front")) (aCons (eC (.str "back")) (aCons (eC (.str "keep")) (aCons (eC (.str "flip")) (aCons (eC (.str "")) (aCons (eC (.str "A")) (aCons (eC (.str "remove;")) aNil))))))))))))))) aNil))))
    (sSeq (sSet 5 (eCall 2 m_L_draw (aCons (eVar 0) (aCons (eC (.int 4)) aNil))))
    (sSeq (sIf (tOf (eBin mEq (eVar 5) (eC (.int 3)))) (sRet (eBin mAdd (eVar 1) (eCall 2 m_L_any (aCons (eVar 0) (aCons (eFrz (oLst (aCons (eC (.str " ")) (aCons (eC (.str ";")) (aCons (eC (.str " a")) aNil))))) aNil))))) sNil)
    (sRet (eM1 mJoin (eC (.str " ")) (eBin mAdd (eBin mAdd (eSl (eVar 2) pNone (pSome (eVar 3))) (eBin mMul (eFrz (oLst (aCons (eVar 4) aNil))) (eB mInt (aCons (eBin (mI fun i j => decide (j < i)) (eVar 5) (eC (.int 0))) aNil)))) (eSl (eVar 2) (pSome (eBin mSub (eBin mAdd (eVar 3) (eC (.int 1))) (eBin mDiv (eVar 5) (eC (.int 2))))) pNone)))))))))
def m_L_spoilt : List D → Bx → R D := runF 2 6 g_L_spoilt

theorem add_strs {x y : Str} (h : x.length + y.length ≤ 16777216) : mAdd (.str x) (.str y) = some (.str (x ++ y)) := by
  show (if x.length + y.length ≤ sizeN then _ else _) = _
  rw [if_pos (show _ ≤ sizeN from h)]
theorem strs_map : ∀ zs : List Str, strsOf (zs.map D.str) = some zs
  | [] => rfl
  | z :: zs => by rw [List.map_cons, strsOf, strs_map zs]; rfl
theorem join_texts {zs : List Str} (h : ∀ z ∈ zs, z.length ≤ 40) (hn : zs.length ≤ 100) : mJoin (.str " ") (.lst (zs.map D.str)) = some (.str (Txt.join " " zs)) ∧ (Txt.join " " zs).length ≤ 4100 := by
  have l1 : (" " : Str).length = 1 := by decide +kernel
  have s : ∀ ys : List Str, (∀ z ∈ ys, z.length ≤ 40) → (ys.map (·.length)).sum ≤ ys.length * 40 := fun ys => by
    induction ys with
    | nil => intro _; exact Nat.le_refl _
    | cons y ys ih =>
      intro hy
      have := ih fun z hz => hy z (List.mem_cons_of_mem _ hz)
      have := hy y List.mem_cons_self
      simp only [List.map_cons, List.sum_cons, List.length_cons]
      omega
  have s := s zs h
  have b := len_join (g := " ") (ys := zs)
  refine ⟨?_, by rw [l1] at b; omega⟩
  unfold mJoin
  simp only [strs_map, Option.bind_some]
  unfold joinS
  rw [l1, if_pos (show _ ≤ sizeN from by unfold sizeN; omega)]
theorem split_ed {e : Ed} (he : e ∈ shelfL) : ∃ ws : List Str, mSplitS (.str (edS e)) (.str " ") = some (.lst (ws.map D.str)) ∧ 0 < ws.length ∧ ws.length ≤ 5 ∧ (∀ z ∈ ws, PyData.strOk z = true ∧ z.length ≤ 30) := by
  have h := List.all_eq_true.mp txt_all e he
  unfold txtOk at h
  simp only [Bool.and_eq_true] at h
  obtain ⟨_, _, _, h⟩ := h
  split at h
  · rename_i ds hs
    simp only [Bool.and_eq_true, decide_eq_true_eq] at h
    obtain ⟨h1, h2, h3'⟩ := h
    have h3 := List.all_eq_true.mp h3'
    obtain ⟨ws, rfl, hw⟩ : ∃ ws : List Str, ds = ws.map D.str ∧ ∀ z ∈ ws, PyData.strOk z = true ∧ z.length ≤ 30 := by
      clear hs h1 h2 h3'
      induction ds with
      | nil => exact ⟨[], rfl, fun _ h => nomatch h⟩
      | cons d ds ih =>
        obtain ⟨ws, e1, e2⟩ := ih fun x hx => h3 x (List.mem_cons_of_mem _ hx)
        have q := h3 d List.mem_cons_self
        cases d with
        | str s =>
          simp only [Bool.and_eq_true, decide_eq_true_eq] at q
          refine ⟨s :: ws, by rw [e1]; rfl, fun z hz => ?_⟩
          rcases List.mem_cons.mp hz with rfl | hz
          · exact q
          · exact e2 z hz
        | _ => cases q
    rw [List.length_map] at h1 h2
    exact ⟨ws, hs, h1, h2, hw⟩
  · cases h
theorem txt_ok {e : Ed} (he : e ∈ shelfL) : PyData.strOk (edS e) = true ∧ (edS e).length ≤ 30 := by
  have h := List.all_eq_true.mp txt_all e he
  unfold txtOk at h
  simp only [Bool.and_eq_true, decide_eq_true_eq] at h
  exact ⟨h.1, h.2.1⟩
theorem spoilt_ok {e : Ed} (he : e ∈ shelfL) (w : Bx) : ∃ t w', m_L_spoilt [.box, .str (edS e)] w = .ok (.str t) w' ∧ PyData.strOk t = true := by
  obtain ⟨ws, h1, h2, h3, h4⟩ := split_ed he
  obtain ⟨t1, t2⟩ := txt_ok he
  have n1 : mLen [.lst (ws.map D.str)] = some (.int (ws.length : Int)) := by
    show some (D.int ((ws.map D.str).length : Int)) = _
    rw [List.length_map]
  obtain ⟨ri, w1, e1, i0, i1⟩ := draw_ok w (ws.length : Int) (by omega) (by omega)
  obtain ⟨i, rfl⟩ : ∃ i : Nat, ri = (i : Int) := ⟨ri.toNat, by omega⟩
  obtain ⟨d, w2, hd, e2⟩ := any_lst w1 [.str "a", .str "b", .str "1", .str "2", .str "3", .str "01", .str "front", .str "back", .str "keep", .str "flip", .str "", .str "A", .str "remove;"] (by simp) (by simp)
  obtain ⟨od, rfl, o1, o2⟩ : ∃ s : Str, d = .str s ∧ PyData.strOk s = true ∧ s.length ≤ 30 := by
    simp only [List.mem_cons, List.not_mem_nil, or_false] at hd
    rcases hd with rfl | rfl | rfl | rfl | rfl | rfl | rfl | rfl | rfl | rfl | rfl | rfl | rfl <;> exact ⟨_, rfl, by decide +kernel, by decide +kernel⟩
  obtain ⟨y, w3, e3, y0, y1⟩ := draw_ok w2 4 (by decide) (by decide)
  have fin : ∀ (zs : List Str), (∀ z ∈ zs, z ∈ ws ∨ z = od) → zs.length ≤ 100 → mJoin (.str " ") (.lst (zs.map D.str)) = some (.str (Txt.join " " zs)) ∧ PyData.strOk (Txt.join " " zs) = true := fun zs hz hn => by
    refine ⟨(join_texts (fun z h => ?_) hn).1, ok_join (by decide +kernel) fun z h => ?_⟩
    · rcases hz z h with h | rfl
      · have := (h4 z h).2; omega
      · omega
    · rcases hz z h with h | rfl
      · exact (h4 z h).1
      · exact o1
  have tk : mSl (.lst (ws.map D.str)) none (some (i : Int)) = some (.lst ((ws.take i).map D.str)) := by rw [slL_take, List.map_take]
  have dr : ∀ j : Nat, mSl (.lst (ws.map D.str)) (some (j : Int)) none = some (.lst ((ws.drop j).map D.str)) := fun j => by rw [slL_drop, List.map_drop]
  have lt : (ws.take i).length ≤ 5 := by rw [List.length_take]; omega
  have ld : ∀ j, (ws.drop j).length ≤ 5 := fun j => by rw [List.length_drop]; omega
  have yy : y = 3 ∨ y = 0 ∨ y = 1 ∨ y = 2 := by omega
  rcases yy with rfl | rfl | rfl | rfl
  · obtain ⟨d, w4, hd, e4⟩ := any_lst w3 [.str " ", .str ";", .str " a"] (by simp) (by simp)
    obtain ⟨s, rfl, s1, s2⟩ : ∃ s : Str, d = .str s ∧ PyData.strOk s = true ∧ s.length ≤ 30 := by
      simp only [List.mem_cons, List.not_mem_nil, or_false] at hd
      rcases hd with rfl | rfl | rfl <;> exact ⟨_, rfl, by decide +kernel, by decide +kernel⟩
    have ad := add_strs (x := edS e) (y := s) (by omega)
    have q : mEq (.int 3) (.int 3) = some (.bl true) := of_isT (by decide +kernel)
    refine ⟨_, w4, x_run rfl ?_, ok_app t1 s1⟩
    show g_L_spoilt [some (.dat .box), some (.dat (.str (edS e))), none, none, none, none] w = _
    unfold g_L_spoilt
    walk_at "y_go"
  · have q : mEq (.int 0) (.int 3) = some (.bl false) := of_isF (by decide +kernel)
    have a1 : (mI fun i j => decide (j < i)) (.int 0) (.int 0) = some (.bl false) := of_isF (by decide +kernel)
    have a2 : mInt [.bl false] = some (.int 0) := rfl
    have a3 : mMul (.lst [.str od]) (.int 0) = some (.lst []) := rfl
    have a4 : mDiv (.int 0) (.int 2) = some (.int 0) := rfl
    have a5 : mAdd (.int (i : Int)) (.int 1) = some (.int ((i + 1 : Nat) : Int)) := rfl
    have a6 : mSub (.int ((i + 1 : Nat) : Int)) (.int 0) = some (.int ((i + 1 : Nat) : Int)) := by show some (D.int _) = _; rw [Int.sub_zero]
    have b1 := dr (i + 1)
    have c1 : mAdd (.lst ((ws.take i).map D.str)) (.lst []) = some (.lst ((ws.take i).map D.str)) := by rw [addL (by simp; omega), List.append_nil]
    have c2 : mAdd (.lst ((ws.take i).map D.str)) (.lst ((ws.drop (i + 1)).map D.str)) = some (.lst ((ws.take i ++ ws.drop (i + 1)).map D.str)) := by
      have := ld (i + 1)
      rw [addL (by simp; omega), List.map_append]
    obtain ⟨j1, j2⟩ := fin (ws.take i ++ ws.drop (i + 1)) (fun z hz => (List.mem_append.mp hz).elim (fun h => .inl (List.mem_of_mem_take h)) fun h => .inl (List.mem_of_mem_drop h)) (by have := ld (i + 1); rw [List.length_append]; omega)
    refine ⟨_, w3, x_run rfl ?_, j2⟩
    show g_L_spoilt [some (.dat .box), some (.dat (.str (edS e))), none, none, none, none] w = _
    unfold g_L_spoilt
    walk_at "y_go"
  · have q : mEq (.int 1) (.int 3) = some (.bl false) := of_isF (by decide +kernel)
    have a1 : (mI fun i j => decide (j < i)) (.int 1) (.int 0) = some (.bl true) := of_isT (by decide +kernel)
    have a2 : mInt [.bl true] = some (.int 1) := rfl
    have a3 : mMul (.lst [.str od]) (.int 1) = some (.lst [.str od]) := rfl
    have a4 : mDiv (.int 1) (.int 2) = some (.int 0) := rfl
    have a5 : mAdd (.int (i : Int)) (.int 1) = some (.int ((i + 1 : Nat) : Int)) := rfl
    have a6 : mSub (.int ((i + 1 : Nat) : Int)) (.int 0) = some (.int ((i + 1 : Nat) : Int)) := by show some (D.int _) = _; rw [Int.sub_zero]
    have b1 := dr (i + 1)
    have c1 : mAdd (.lst ((ws.take i).map D.str)) (.lst [.str od]) = some (.lst ((ws.take i ++ [od]).map D.str)) := by rw [addL (by simp; omega), List.map_append]; rfl
    have c2 : mAdd (.lst ((ws.take i ++ [od]).map D.str)) (.lst ((ws.drop (i + 1)).map D.str)) = some (.lst ((ws.take i ++ [od] ++ ws.drop (i + 1)).map D.str)) := by
      have := ld (i + 1)
      rw [addL (by simp; omega)]; simp only [List.map_append]
    obtain ⟨j1, j2⟩ := fin (ws.take i ++ [od] ++ ws.drop (i + 1)) (fun z hz => (List.mem_append.mp hz).elim (fun h => (List.mem_append.mp h).elim (fun h => .inl (List.mem_of_mem_take h)) fun h => .inr (List.mem_singleton.mp h)) fun h => .inl (List.mem_of_mem_drop h)) (by have := ld (i + 1); simp; omega)
    refine ⟨_, w3, x_run rfl ?_, j2⟩
    show g_L_spoilt [some (.dat .box), some (.dat (.str (edS e))), none, none, none, none] w = _
    unfold g_L_spoilt
    walk_at "y_go"
  · have q : mEq (.int 2) (.int 3) = some (.bl false) := of_isF (by decide +kernel)
    have a1 : (mI fun i j => decide (j < i)) (.int 2) (.int 0) = some (.bl true) := of_isT (by decide +kernel)
    have a2 : mInt [.bl true] = some (.int 1) := rfl
    have a3 : mMul (.lst [.str od]) (.int 1) = some (.lst [.str od]) := rfl
    have a4 : mDiv (.int 2) (.int 2) = some (.int 1) := rfl
    have a5 : mAdd (.int (i : Int)) (.int 1) = some (.int ((i + 1 : Nat) : Int)) := rfl
    have a6 : mSub (.int ((i + 1 : Nat) : Int)) (.int 1) = some (.int (i : Int)) := by show some (D.int _) = _; congr 2; omega
    have b1 := dr i
    have c1 : mAdd (.lst ((ws.take i).map D.str)) (.lst [.str od]) = some (.lst ((ws.take i ++ [od]).map D.str)) := by rw [addL (by simp; omega), List.map_append]; rfl
    have c2 : mAdd (.lst ((ws.take i ++ [od]).map D.str)) (.lst ((ws.drop i).map D.str)) = some (.lst ((ws.take i ++ [od] ++ ws.drop i).map D.str)) := by
      have := ld i
      rw [addL (by simp; omega)]; simp only [List.map_append]
    obtain ⟨j1, j2⟩ := fin (ws.take i ++ [od] ++ ws.drop i) (fun z hz => (List.mem_append.mp hz).elim (fun h => (List.mem_append.mp h).elim (fun h => .inl (List.mem_of_mem_take h)) fun h => .inr (List.mem_singleton.mp h)) fun h => .inl (List.mem_of_mem_drop h)) (by have := ld i; simp; omega)
    refine ⟨_, w3, x_run rfl ?_, j2⟩
    show g_L_spoilt [some (.dat .box), some (.dat (.str (edS e))), none, none, none, none] w = _
    unfold g_L_spoilt
    walk_at "y_go"

def lb_parse_edit_0 : SM := (sIf (tOf (eBin mEq (eCall 1 m_format_edit (aCons (eVar 1) aNil)) (eVar 0))) (sRet (eVar 1)) sNil)
def g_parse_edit : SM := (sSeq (sFor (iAny (eCall 0 m_shelf aNil)) (gSet 1) lb_parse_edit_0)
    (sRaise "ParseError" "at" "ParseError" (eC (.int 0))))
def m_parse_edit : List D → Bx → R D := runF 1 2 g_parse_edit

theorem find_dist {e : Ed} : ∀ {l : List Ed}, (l.map edS).Nodup → e ∈ l → (l.find? fun x => decide (edS x = edS e)) = some e
  | x :: l, h, he => by
    rw [List.map_cons, List.nodup_cons] at h
    rw [List.find?_cons]
    by_cases hx : edS x = edS e
    · rw [decide_eq_true hx]
      rcases List.mem_cons.mp he with rfl | hm
      · rfl
      · exact absurd (List.mem_map.mpr ⟨e, hm, hx.symm⟩) h.1
    · rw [decide_eq_false hx]
      rcases List.mem_cons.mp he with rfl | hm
      · exact absurd rfl hx
      · exact find_dist h.2 hm
theorem parse_any (t : Str) (w : Bx) : (∃ e, (shelfL.find? fun x => decide (edS x = t)) = some e ∧ m_parse_edit [.str t] w = .ok (edD e) w) ∨ ((shelfL.find? fun x => decide (edS x = t)) = none ∧ m_parse_edit [.str t] w = .err "ParseError" [("tag", .str "ParseError"), ("at", .int 0)] w) := by
  have key := x_forF1 (gm := gSet 1) (body := lb_parse_edit_0) (w := w) edD (fun x => decide (edS x = t)) (fun S => ∃ s1, S = [some (.dat (.str t)), s1]) shelfL [some (.dat (.str t)), none] ⟨_, rfl⟩ (fun e he S h => by
    obtain ⟨s1, rfl⟩ := h
    have f := fmt_ok he w
    have q : mEq (.str (edS e)) (.str t) = some (.bl (decide (edS e = t))) := eq_texts
    refine ⟨[some (.dat (.str t)), some (.dat (edD e))], rfl, ?_⟩
    by_cases h : edS e = t
    · rw [decide_eq_true h] at q ⊢
      exact .inl ⟨rfl, x_ifT (w1 := w) (x_tOf (p_bin (x_call (p_cons rfl x_nil) rfl f) rfl q)) (x_ret rfl)⟩
    · rw [decide_eq_false h] at q ⊢
      exact .inr ⟨rfl, _, x_ifF (w1 := w) (x_tOf (p_bin (x_call (p_cons rfl x_nil) rfl f) rfl q)) rfl, _, rfl⟩)
  have it : iAny (eCall 0 m_shelf aNil) (startS 2 [.str t]) w = .ok (shelfL.map edD) w := x_any (x_call x_nil rfl (shelf_ok w)) rfl
  rcases key with ⟨e, h1, h2⟩ | ⟨h1, S2, h2, _, rfl⟩
  · exact .inl ⟨e, h1, x_run rfl (x_seqR (x_for it h2))⟩
  · exact .inr ⟨h1, x_runE rfl (p_seq (x_for it h2) (x_raise (w1 := w) rfl))⟩
theorem parse_ok {e : Ed} (he : e ∈ shelfL) (w : Bx) : m_parse_edit [.str (edS e)] w = .ok (edD e) w := by
  have f := find_dist (of_decide_eq_true dist_all) he
  rcases parse_any (edS e) w with ⟨x, h1, h2⟩ | ⟨h1, _⟩
  · rw [f] at h1; cases h1; exact h2
  · rw [f] at h1; cases h1

noncomputable def lt_law : SM := (sSeq (sSet 7 (eCall 2 m_L_spoilt (aCons (eVar 1) (aCons (eVar 6) aNil))))
    (sIf (tOf (eBin mIn (eVar 7) (eVar 2))) (sIf (tNotM (tOf (eCall 2 (mSame 8) (aCons (eCall 1 m_parse_edit (aCons (eVar 7) aNil)) (aCons (eBin mIx (eCall 0 m_L_shelf aNil) (eIxL (eVar 2) (eVar 7))) aNil))))) (sRet (eC (.bl false))) sNil) (sIf (tOf (eBin mNe (eRef refTbl (eCall 1 m_parse_edit (aCons (eVar 7) aNil))) (eTup (aCons (eC (.str "ParseError")) (aCons (eC (.int 0)) aNil))))) (sRet (eC (.bl false))) sNil)))
noncomputable def lb_law_0 : SM := (sSeq (sSet 5 (eCall 1 m_L_edit (aCons (eVar 1) aNil)))
    (sSeq (sSet 6 (eCall 1 m_L_spelled (aCons (eVar 5) aNil)))
    (sSeq (sIf (tNotM (tOf (eCall 2 (mSame 8) (aCons (eFrz (oLst (aCons (eCall 1 m_format_edit (aCons (eVar 5) aNil)) (aCons (eCall 1 m_parse_edit (aCons (eVar 6) aNil)) aNil)))) (aCons (eFrz (oLst (aCons (eVar 6) (aCons (eVar 5) aNil)))) aNil))))) (sRet (eC (.bl false))) sNil)
    lt_law)))
noncomputable def g_law : SM := (sSeq (sSet 2 (eFrz (oLc (iAny (eCall 0 m_L_shelf aNil)) (gSet 5) tYesM (eCall 1 m_L_spelled (aCons (eVar 5) aNil)) [5])))
    (sSeq (sFor (iBy rngOf (aCons (eC (.int 8)) aNil)) (gSet 3) lb_law_0)
    (sSeq (sLam 4 la_law_0)
    (sRet (eBin mEq (eFrz (oRefs 4 8 la_law_0 refTbl [(eCall 1 m_parse_edit (aCons (eC (.str "")) aNil)), (eCall 1 m_parse_edit (aCons (eC (.str "keep\n")) aNil))])) (eBin mMul (eFrz (oLst (aCons (eTup (aCons (eC (.str "ParseError")) (aCons (eC (.int 0)) aNil))) aNil))) (eC (.int 2))))))))

def textsD : D := .lst ((shelfL.map edS).map D.str)
def IS (S : SL) : Prop := ∃ s0 s3 s4 s5 s6 s7 s8, S = [s0, some (.dat .box), some (.dat textsD), s3, s4, s5, s6, s7, s8]
theorem ref_pe : refTbl.lookup ("ParseError" : Str) = some ("at" : Str) := by decide +kernel
theorem find_ix {t : Str} {x : Ed} (h : (shelfL.find? fun x => decide (edS x = t)) = some x) : ∃ j : Nat, j < 53 ∧ ((shelfL.map edS).findIdx? fun y => decide (y = t)) = some j ∧ shelfL.getD j .keep = x := by
  obtain ⟨h1, i, hi, h2, h3⟩ := List.find?_eq_some_iff_getElem.mp h
  refine ⟨i, by have := shelf_len; omega, ?_, by rw [List.getD_eq_getElem?_getD, List.getElem?_eq_getElem hi, h2]; rfl⟩
  rw [List.findIdx?_map]
  refine List.findIdx?_eq_some_iff_getElem.mpr ⟨hi, by simpa [h2] using h1, fun j hj => ?_⟩
  have := h3 j hj
  simpa using this
theorem ix_shelf {i : Nat} (h : i < 53) : mIx (.lst (shelfL.map edD)) (.int (i : Int)) = some (edD (shelfL.getD i .keep)) := by
  have l := shelf_len
  refine atI_nat ?_
  rw [List.getElem?_map, List.getD_eq_getElem?_getD, List.getElem?_eq_getElem (by omega)]; rfl
theorem nope : (shelfL.find? fun x => decide (edS x = "")).isNone = true := by decide +kernel
theorem nope2 : (shelfL.find? fun x => decide (edS x = "keep\n")).isNone = true := by decide +kernel
theorem turn_ok (S : SL) (w : Bx) (h : IS S) : ∃ S2 w2, lb_law_0 S w = .nx S2 w2 ∧ IS S2 := by
  obtain ⟨s0, s3, s4, s5, s6, s7, s8, rfl⟩ := h
  obtain ⟨e, w1, e1, hE⟩ := edit_ok2 w
  have he := mem_shelf hE
  have f1 := spl_ok he w1
  have f2 := fmt_ok he w1
  have f3 := parse_ok he w1
  have z1 : mSame 8 [.lst [.str (edS e), edD e], .lst [.str (edS e), edD e]] w1 = .ok (.bl true) w1 := x_same' ⟨lsz rfl, plain_cons trivial (plain_cons (plain_ed e 4) plain_nil)⟩
  obtain ⟨t, w2, e2, ht⟩ := spoilt_ok he w1
  have tys : ∀ y ∈ shelfL.map edS, PyData.strOk y = true := fun y hy => by
    obtain ⟨x, hx, rfl⟩ := List.mem_map.mp hy
    exact (txt_ok hx).1
  have q1 : mIn (.str t) textsD = _ := in_texts ht tys
  have q2 : mIndexL textsD (.str t) = _ := index_texts ht tys
  rcases parse_any t w2 with ⟨x, h1, h2⟩ | ⟨h1, h2⟩
  · obtain ⟨j, hj, k1, k2⟩ := find_ix h1
    rw [k1] at q2
    have q2 : mIndexL textsD (.str t) = some (.int (j : Int)) := q2
    have hm : t ∈ shelfL.map edS := by
      have := List.find?_some h1
      have hx := List.mem_of_find?_eq_some h1
      exact List.mem_map.mpr ⟨x, hx, of_decide_eq_true this⟩
    rw [decide_eq_true hm] at q1
    have i1 := ix_shelf hj
    rw [k2] at i1
    have z2 : mSame 8 [edD x, edD x] w2 = .ok (.bl true) w2 := x_same' (plain_ed x 5)
    have il : eIxL (eVar 2) (eVar 7) [s0, some (.dat .box), some (.dat textsD), s3, s4, some (.dat (edD e)), some (.dat (.str (edS e))), some (.dat (.str t)), s8] w2 = .ok (.int (j : Int)) w2 := x_ixL rfl rfl q2
    have sh := lshelf_ok w2
    refine ⟨?S1, ?w1, ?a1, ?b1⟩
    case a1 =>
      unfold lb_law_0 lt_law
      walk_at "y_go"
    · exact ⟨_, _, _, _, _, _, _, rfl⟩
  · have hm : t ∉ shelfL.map edS := fun hm => by
      obtain ⟨x, hx, e⟩ := List.mem_map.mp hm
      have := List.find?_eq_none.mp h1 x hx
      exact this (by rw [e]; exact decide_eq_true rfl)
    rw [decide_eq_false hm] at q1
    have tg : ([("tag", .str "ParseError"), ("at", .int 0)] : List (Str × D)).lookup ("tag" : Str) = some (.str "ParseError") := rfl
    have rf : refF [("tag", .str "ParseError"), ("at", .int 0)] "at" = some (.int 0) := by
      have : ¬ (("at" : Str) = "") := by decide +kernel
      have : (("at" : Str) == ("tag" : Str)) = false := by decide +kernel
      unfold refF; simp [List.lookup, *]
    have rc := ref_pe
    have ne : mNe (.tup [.str "ParseError", .int 0]) (.tup [.str "ParseError", .int 0]) = some (.bl false) := ne_tag (n := 0) (by decide +kernel) trivial
    refine ⟨?S2, ?w2, ?a2, ?b2⟩
    case a2 =>
      unfold lb_law_0 lt_law
      walk_at "y_go"
    · exact ⟨_, _, _, _, _, _, _, rfl⟩
theorem law_true : ∀ w : Bx, ∃ w', g_law (lawS 9) w = .rt (.bl true) w' := fun w => by
  have lc := x_lcT (S := wipeS (lawS 9) [5]) (gm := gSet 5) (em := eCall 1 m_L_spelled (aCons (eVar 5) aNil)) edD (fun e => .str (edS e)) shelfL w (fun e he => ⟨_, rfl, x_call (p_cons rfl x_nil) rfl (spl_ok he w)⟩)
  have st : sSet 2 (eFrz (oLc (iAny (eCall 0 m_L_shelf aNil)) (gSet 5) tYesM (eCall 1 m_L_spelled (aCons (eVar 5) aNil)) [5])) (lawS 9) w = .nx ((lawS 9).set 2 (some (.dat textsD))) w := by
    refine x_set (x_frz (p_lc (p_any (x_call x_nil rfl (lshelf_ok w)) rfl) (by rw [List.length_map, shelf_len]; show _ ≤ 16777216; omega) ?_))
    rw [lc, List.map_map]; rfl
  obtain ⟨S2, w2, e, hI⟩ := x_forP (gm := gSet 3) (body := lb_law_0) IS (upFrom 0 8) ((lawS 9).set 2 (some (.dat textsD))) w ⟨_, _, _, _, _, _, _, rfl⟩ fun x _ S w h => by
    obtain ⟨s0, s3, s4, s5, s6, s7, s8, rfl⟩ := h
    obtain ⟨S2, w2, e, h2⟩ := turn_ok [s0, some (.dat .box), some (.dat textsD), some (.dat x), s4, s5, s6, s7, s8] w ⟨_, _, _, _, _, _, _, rfl⟩
    exact ⟨_, rfl, S2, w2, .inl e, h2⟩
  obtain ⟨s0, s3, s4, s5, s6, s7, s8, rfl⟩ := hI
  have p1 := (parse_any "" w2).resolve_left fun ⟨x, h, _⟩ => by have := nope; rw [h] at this; cases this
  have p2 := (parse_any "keep\n" w2).resolve_left fun ⟨x, h, _⟩ => by have := nope2; rw [h] at this; cases this
  have f1 := p1.2
  have f2 := p2.2
  have tg : ([("tag", .str "ParseError"), ("at", .int 0)] : List (Str × D)).lookup ("tag" : Str) = some (.str "ParseError") := rfl
  have rf : refF [("tag", .str "ParseError"), ("at", .int 0)] "at" = some (.int 0) := by
    have : ¬ (("at" : Str) = "") := by decide +kernel
    have : (("at" : Str) == ("tag" : Str)) = false := by decide +kernel
    unfold refF; simp [List.lookup, *]
  have rc := ref_pe
  have ll : la_law_0.length ≤ 1000 := by decide +kernel
  have mm : mMul (.lst [.tup [.str "ParseError", .int 0]]) (.int 2) = some (.lst [.tup [.str "ParseError", .int 0], .tup [.str "ParseError", .int 0]]) := rfl
  have eq : mEq (.lst [.tup [.str "ParseError", .int 0], .tup [.str "ParseError", .int 0]]) (.lst [.tup [.str "ParseError", .int 0], .tup [.str "ParseError", .int 0]]) = some (.bl true) := by
    have s1 : niceN 0 (.str "ParseError") := show PyData.strOk "ParseError" = true by decide +kernel
    exact eq_same (n := 2) (nice_list (nice_cons (nice_tupl (nice_cons s1 (nice_cons trivial nice_nil))) (nice_cons (nice_tupl (nice_cons s1 (nice_cons trivial nice_nil))) nice_nil))) (by decide) rfl
  have last : (sSeq (sLam 4 la_law_0) (sRet (eBin mEq (eFrz (oRefs 4 8 la_law_0 refTbl [(eCall 1 m_parse_edit (aCons (eC (.str "")) aNil)), (eCall 1 m_parse_edit (aCons (eC (.str "keep\n")) aNil))])) (eBin mMul (eFrz (oLst (aCons (eTup (aCons (eC (.str "ParseError")) (aCons (eC (.int 0)) aNil))) aNil))) (eC (.int 2)))))) [s0, some (.dat .box), some (.dat textsD), s3, s4, s5, s6, s7, s8] w2 = .rt (.bl true) w2 := by
    walk_at "y_go"
  exact ⟨w2, x_seq st (x_seq (x_for (x_by (x_cons rfl x_nil) (rng_ok (by decide) (by decide))) e) last)⟩

section
variable {P : Program} {w : World} {K : PySem.W.Frag} {mg : Str → Option Value} {base : Heap} {tb : List (Addr × Str)}
theorem ok_open (T : Top P w K mg base tb) : ∃ fo fdo, FnOk P w K mg base (L2.CX P w) 1 fo fdo ["_law_script"] (spOpen K) ∧ mg "_law_open" = some (.ref fo) ∧ PySem.W.keepIn K (.ref fo) = true ∧ Binds K fdo ["_law_script"] [] := by
  obtain ⟨fo, fdo, F, hm, hb⟩ := T.d_L_open
  refine ⟨fo, fdo, F.okX (k := 0) sc_L_open (fun vs H Q E h => ?_) (fun cdv A outer s H vs Q E hr h => ?_), hm, F.kp, hb⟩
  · obtain ⟨a, ns, rfl, _⟩ := h; rfl
  · obtain ⟨a, ns, rfl, hS, hl, q⟩ := h
    have nd := sc_L_open.nd
    refine ⟨_, pss_cons (ps_set (i := 1) nd rfl (.inl rfl) (pe_callTy call_list_of (by rfl) T.n_list (by decide +kernel) (pa_cons (pe_slice sl_list (pv 0) po_none (po_some pe_int)) pa_nil)))
      (pss_cons (ps_set (i := 2) nd rfl (.inl rfl) (pe_op op_add pe_int (pe_callB call_len_seq (by rfl) T.n_len PySem.boot_len (pa_cons (pv 1) pa_nil))))
      (pss_cons (ps_for (passes_of rfl) rfl (pi_list (pv 1)) (pg_name (i := 3) nd rfl (.inl rfl)) (pss_one (ps_set (i := 2) nd rfl (.inl rfl) (pe_op op_mod (pe_op op_add (pe_op op_add (pe_op op_mul (pv 2) pe_int) (pe_op op_mod (pv 3) pe_int)) pe_int) pe_int))))
      (pss_one (ps_ret (pe_lst (pa_cons (pv 1) (pa_cons pe_int (pa_cons pe_int (pa_cons (pv 2) pa_nil))))))))), ?_⟩
    refine ⟨.ref a, rfl, 63, rfl, a, ns.map V.int, rfl, hS, fun p np => ?_⟩
    rw [cut63 hl]
    refine ⟨p, _, rfl, .inl (SqL.of upd_same), fun c nc => ?_⟩
    have s1 : Same H (upd H p (.lst (ns.map V.int))) := fun x o h => by rw [upd_ne (ne_of_none h np)]; exact h
    have s2 : Same (upd H p (.lst (ns.map V.int))) (upd (upd H p (.lst (ns.map V.int))) c (.lst (ns.map V.int))) := fun x o h => by rw [upd_ne (ne_of_none h nc)]; exact h
    have hc : (upd (upd H p (.lst (ns.map V.int))) c (.lst (ns.map V.int))) c = some (.lst (ns.map V.int)) := upd_same
    generalize (upd (upd H p (.lst (ns.map V.int))) c (.lst (ns.map V.int))) = H2 at hc s2
    have s12 := s1.trans s2
    refine ⟨.ref c, rfl, c, _, rfl, .inl (SqL.of hc), 3816, _, rfl, rfl, ?_⟩
    refine ⟨.ref c, rfl, c, rfl, ⟨_, SqL.of hc⟩, for_list (K := K) (a := c) (xs := ns.map V.int) (fun i σ H3 => H3 = H2 ∧ ∃ (mk : Int) (y : Option V), 0 ≤ mk ∧ mk < 2147483647 ∧ σ = [some (.ref a), some (.ref c), some (.int mk), y]) ⟨rfl, 3816 + ((ns.map V.int).length : Int), none, ?_, ?_, rfl⟩ (fun i σ H3 _ h => ?_) (fun i x σ H3 hx h => ?_) (fun σ H3 h => ?_)⟩
    · omega
    · rw [List.length_map]; omega
    · obtain ⟨rfl, _⟩ := h; exact SqL.of hc
    · obtain ⟨rfl, mk, y, h0, h1, rfl⟩ := h
      have hx' : ∃ n, x = .int n := by
        rw [List.getElem?_map] at hx
        obtain ⟨n, _, rfl⟩ := Option.map_eq_some_iff.mp hx
        exact ⟨n, rfl⟩
      obtain ⟨n, rfl⟩ := hx'
      refine ⟨_, rfl, mk, 8191, rfl, rfl, .inr ⟨by decide, by decide⟩, .int n, rfl, n, 1000003, rfl, rfl, (by show (0 : Int) < 1000003; decide), _, _, rfl, rfl, _, 7, rfl, rfl, _, 2147483629, rfl, rfl, (by show (0 : Int) < 2147483629; decide), rfl, _, some (.int n), ?_, ?_, rfl⟩
      · exact Int.emod_nonneg _ (by decide)
      · exact Int.lt_trans (Int.emod_lt_of_pos _ (by decide)) (by decide)
    · obtain ⟨rfl, mk, y, h0, h1, rfl⟩ := h
      refine ⟨.ref c, rfl, .int mk, rfl, by show 4 ≤ sizeLine; decide, fun b nb => ?_⟩
      have nbc : b ≠ c := fun e => by rw [e, hc] at nb; cases nb
      have s3 : Same H3 (upd H3 b (.lst [.ref c, .int 0, .int 0, .int mk])) := fun x o h => by rw [upd_ne (ne_of_none h nb)]; exact h
      exact q b c mk _ (s12.trans s3) nbc upd_same (s3 _ _ hc) h0 h1

theorem x_ParseError (T : Top P w K mg base tb) : ExK P w K mg base (clsOf mg tb) "ParseError" "at" "ParseError" :=
  exk_of T.ex_ParseError sc_ParseError___init__ fun X hN hs => by
    have v0 : ∀ q, PE X (.Name "self" q) (tVar 0) := fun q => pe_var (i := 0) (by rw [hN]; rfl) (.inl (by rw [hs]; rfl)) rfl rfl
    have v1 : ∀ q, PE X (.Name "at" q) (tVar 1) := fun q => pe_var (i := 1) (by rw [hN]; rfl) (.inl (by rw [hs]; rfl)) rfl rfl
    exact pss_cons (ps_ost (v0 _) (v1 _)) (pss_one (ps_ost (v0 _) pe_str))

theorem c_format_edit (T : Top P w K mg base tb) : Cal P w K mg base (clsOf mg tb) "format_edit" 1 1 m_format_edit := by
  obtain ⟨f, fd, F, hm, hb⟩ := T.d_format_edit
  refine cal_of (ps := ["edit"]) F sc_format_edit hm hb (fun cdv hcv A outer s H E bx F0 hr => ?_) (fun ds w _ => rfl)
  have px := passes_call (E := E) (takes_of (X := cxOf (L2.CX P w) P w K mg base ["edit", "words", "one"] "format_edit" (defScope s_format_edit) f cdv A outer s H E) rfl rfl rfl rfl) (fun _ _ _ _ h => h)
  exact (dss_cons (ds_setO 1 (do_lst (da_cons (de_ix rfl (de_var 0) de_int) da_nil)) sc_format_edit.nd)
    (dss_cons (ds_for (passes_of rfl) rfl (di_any rfl (de_slice rfl (de_var 0) (dp_some de_int) dp_none)) (dg_name 2 sc_format_edit.nd) (dss_one (ds_if (dt_val (de_isi rfl kit_tuple T.n_tuple (by decide +kernel) T.n_isinstance (de_var 2))) (dss_one (ds_extend 1 rfl (DO.de (do_lst (da_cons (de_ix rfl (de_var 2) de_int) (da_cons (de_strI T.n_str (da_cons (de_ix rfl (de_var 2) de_int) da_nil)) (da_cons (de_ix rfl (de_var 2) de_int) da_nil))))))) (dss_one (ds_append 1 rfl (de_var 2))))))
    (dss_one (ds_frz 1 (ds_ret (de_join rfl de_str (de_var 1)))))))

theorem cO_places (T : Top P w K mg base tb) : CalO P w K mg base (clsOf mg tb) "places" 1 0 mO_places := by
  obtain ⟨f, fd, F, hm, hb⟩ := T.d_places
  refine calO_of (ps := []) F sc_places hm hb (fun cdv hcv A outer s H E bx F0 hr => ?_)
  have px := passes_call (E := E) (takes_of (X := cxOf (L2.CX P w) P w K mg base ["symbol", "number", "end"] "places" (defScope s_places) f cdv A outer s H E) rfl rfl rfl rfl) (fun _ _ _ _ h => h)
  exact (dsso_ret (do_lc3 [("symbol", 0), ("number", 1), ("end", 2)] [1, 2] [2] rfl sc_places.nd (di_any rfl (de_glb rfl T.g_SYMBOLS)) (blkOk_by (own := [("symbol", 0), ("number", 1), ("end", 2)]) (N := ["symbol", "number", "end"]) (sc := defScope s_places) (by decide +kernel)) (fun _ _ _ _ _ => (dg_name 0 sc_places.nd)) (fun _ _ _ _ _ => (di_any rfl (de_glb rfl T.g_NUMBERS))) (fun _ _ _ _ _ => (dg_name 1 sc_places.nd)) (fun _ _ _ _ _ => (di_any rfl (de_glb rfl T.g_ENDS))) (fun _ _ _ _ _ => (dg_name 2 sc_places.nd)) (fun _ _ _ _ _ => (de_tup (da_cons (de_var 0) (da_cons (de_var 1) (da_cons (de_var 2) da_nil)))))))
theorem c_places (T : Top P w K mg base tb) : Cal P w K mg base (clsOf mg tb) "places" 1 0 m_places := (cO_places T).cal

theorem cO_shelf (T : Top P w K mg base tb) : CalO P w K mg base (clsOf mg tb) "shelf" 2 0 mO_shelf := by
  obtain ⟨f, fd, F, hm, hb⟩ := T.d_shelf
  refine calO_of (ps := []) F sc_shelf hm hb (fun cdv hcv A outer s H E bx F0 hr => ?_)
  have px := passes_call (E := E) (takes_of (X := cxOf (L2.CX P w) P w K mg base ["found", "word", "symbol", "place"] "shelf" (defScope s_shelf) f cdv A outer s H E) rfl rfl rfl rfl) (fun _ _ _ _ h => h)
  exact (dsso_cons (ds_setO 0 (do_lst (da_cons (de_tup (da_cons de_str da_nil)) da_nil)) sc_shelf.nd)
    (dsso_cons (ds_for (passes_of rfl) rfl (di_any rfl (de_tup (da_cons de_str (da_cons de_str da_nil)))) (dg_name 1 sc_shelf.nd) (dss_one (ds_extend 0 rfl (DO.de (do_lc [("symbol", 2)] rfl sc_shelf.nd (di_any rfl (de_glb rfl T.g_SYMBOLS)) (blkOk_by (own := [("symbol", 2)]) (N := ["found", "word", "symbol", "place"]) (sc := defScope s_shelf) (by decide +kernel)) (fun _ _ _ _ _ => (dg_name 2 sc_shelf.nd)) (fun _ _ _ _ _ => dts_nil) (fun _ _ _ _ _ => (de_tup (da_cons (de_var 1) (da_cons (de_var 2) da_nil)))))))))
    (dsso_cons (ds_for (passes_of rfl) rfl (di_any rfl (de_tup (da_cons de_str (da_cons de_str da_nil)))) (dg_name 1 sc_shelf.nd) (dss_one (ds_extend 0 rfl (DO.de (do_lc2 [("place", 3), ("symbol", 2)] [2] rfl sc_shelf.nd (di_any rfl (de_call0 rfl (c_places T) (hr.mono (by decide)) px)) (blkOk_by (own := [("place", 3), ("symbol", 2)]) (N := ["found", "word", "symbol", "place"]) (sc := defScope s_shelf) (by decide +kernel)) (fun _ _ _ _ _ => (dg_name 3 sc_shelf.nd)) (fun _ _ _ _ _ => dts_nil) (fun _ _ _ _ _ => (di_any rfl (de_glb rfl T.g_SYMBOLS))) (fun _ _ _ _ _ => (dg_name 2 sc_shelf.nd)) (fun _ _ _ _ _ => dts_nil) (fun _ _ _ _ _ => (de_tup (da_cons (de_var 1) (da_cons (de_var 3) (da_cons (de_var 2) da_nil))))))))))
    (dsso_cons (ds_for (passes_of rfl) rfl (di_any rfl (de_tup (da_cons de_str (da_cons de_str da_nil)))) (dg_name 1 sc_shelf.nd) (dss_one (ds_extend 0 rfl (DO.de (do_lc [("place", 3)] rfl sc_shelf.nd (di_any rfl (de_call0 rfl (c_places T) (hr.mono (by decide)) px)) (blkOk_by (own := [("place", 3)]) (N := ["found", "word", "symbol", "place"]) (sc := defScope s_shelf) (by decide +kernel)) (fun _ _ _ _ _ => (dg_name 3 sc_shelf.nd)) (fun _ _ _ _ _ => dts_nil) (fun _ _ _ _ _ => (de_tup (da_cons (de_var 1) (da_cons (de_var 3) da_nil)))))))))
    (dsso_retV 0)))))
theorem c_shelf (T : Top P w K mg base tb) : Cal P w K mg base (clsOf mg tb) "shelf" 2 0 m_shelf := (cO_shelf T).cal

theorem c_L_spelled (T : Top P w K mg base tb) : Cal P w K mg base (clsOf mg tb) "_law_spelled" 1 1 m_L_spelled := by
  obtain ⟨f, fd, F, hm, hb⟩ := T.d_L_spelled
  refine cal_of (ps := ["_law_edit_here"]) F sc_L_spelled hm hb (fun cdv hcv A outer s H E bx F0 hr => ?_) (fun ds w _ => rfl)
  have px := passes_call (E := E) (takes_of (X := cxOf (L2.CX P w) P w K mg base ["_law_edit_here", "_law_words", "_law_one"] "_law_spelled" (defScope s_L_spelled) f cdv A outer s H E) rfl rfl rfl rfl) (fun _ _ _ _ h => h)
  exact (dss_cons (ds_set 1 (DO.de (do_lst (da_cons (de_ix rfl (de_var 0) de_int) da_nil))) sc_L_spelled.nd)
    (dss_cons (ds_for (passes_of rfl) rfl (di_any rfl (de_slice rfl (de_var 0) (dp_some de_int) dp_none)) (dg_name 2 sc_L_spelled.nd) (dss_one (ds_set 1 (de_op op_addX (od_add rfl) (de_var 1) (de_if (dt_val (de_isi rfl kit_str T.n_str (by decide +kernel) T.n_isinstance (de_var 2))) (DO.de (do_lst (da_cons (de_var 2) da_nil))) (DO.de (do_lst (da_cons (de_ix rfl (de_var 2) de_int) (da_cons (de_strI T.n_str (da_cons (de_ix rfl (de_var 2) de_int) da_nil)) (da_cons (de_ix rfl (de_var 2) de_int) da_nil))))))) sc_L_spelled.nd)))
    (dss_one (ds_ret (de_join rfl de_str (de_var 1))))))

theorem c_L_draw (T : Top P w K mg base tb) : Cal P w K mg base (clsOf mg tb) "_law_draw" 1 2 m_L_draw := by
  obtain ⟨f, fd, F, hm, hb⟩ := T.d_L_draw
  refine cal_of (ps := ["_law_box", "_law_many"]) F sc_L_draw hm hb (fun cdv hcv A outer s H E bx F0 hr => ?_) (fun ds w _ => rfl)
  have px := passes_call (E := E) (takes_of (X := cxOf (L2.CX P w) P w K mg base ["_law_box", "_law_many", "_law_cell", "_law_found"] "_law_draw" (defScope s_L_draw) f cdv A outer s H E) rfl rfl rfl rfl) (fun _ _ _ _ h => h)
  exact (dss_cons (ds_if (DW.t (dw_and (dt_cmp (op_eqX (u64 hr)) (od_eq rfl) (de_bx 0 2 rfl) de_int) (dw_and1 (dt_cmp op_ltX od_lt (de_bx 0 1 rfl) (de_len rfl T.n_len (da_cons (de_bx 0 0 rfl) da_nil)))))) (dss_cons (ds_set 2 (de_ix rfl (de_bx 0 0 rfl) (de_bx 0 1 rfl)) sc_L_draw.nd)
    (dss_cons (ds_bx 0 1 (de_op op_addX (od_add rfl) (de_bx 0 1 rfl) de_int))
    (dss_one (ds_if (dt_cmp op_ge od_B0 (de_var 2) (de_op op_pow od_pow de_int de_int)) (dss_one (ds_bx 0 2 (de_var 2))) (dss_one (ds_bx 0 3 (de_op op_mod od_mod (de_op op_addX (od_add rfl) (de_op op_addX (od_add rfl) (de_op op_mulX od_mul (de_bx 0 3 rfl) de_int) (de_op op_mod od_mod (de_var 2) de_int)) (de_op op_mulX od_mul (de_bx 0 1 rfl) de_int)) de_int))))))) dss_nil)
    (dss_cons (ds_if (dt_cmp op_gt od_B0 (de_bx 0 2 rfl) de_int) (dss_cons (ds_set 3 (de_op op_mod od_mod (de_bx 0 2 rfl) (de_var 1)) sc_L_draw.nd)
    (dss_cons (ds_bx 0 2 (de_op op_fdiv od_div (de_bx 0 2 rfl) (de_var 1)))
    (dss_one (ds_ret (de_var 3))))) dss_nil)
    (dss_cons (ds_bx 0 3 (de_op op_mod od_mod (de_op op_addX (od_add rfl) (de_op op_mulX od_mul (de_bx 0 3 rfl) de_int) de_int) de_int))
    (dss_one (ds_ret (de_op op_mod od_mod (de_op op_fdiv od_div (de_op op_mod od_mod (de_op op_mulX od_mul (de_bx 0 3 rfl) (de_bx 0 3 rfl)) de_int) de_int) (de_var 1)))))))

theorem c_L_any (T : Top P w K mg base tb) : Cal P w K mg base (clsOf mg tb) "_law_any" 2 2 m_L_any := by
  obtain ⟨f, fd, F, hm, hb⟩ := T.d_L_any
  refine cal_of (ps := ["_law_box", "_law_things"]) F sc_L_any hm hb (fun cdv hcv A outer s H E bx F0 hr => ?_) (fun ds w _ => rfl)
  have px := passes_call (E := E) (takes_of (X := cxOf (L2.CX P w) P w K mg base ["_law_box", "_law_things"] "_law_any" (defScope s_L_any) f cdv A outer s H E) rfl rfl rfl rfl) (fun _ _ _ _ h => h)
  exact (dss_one (ds_ret (de_ix rfl (de_var 1) (de_call rfl (c_L_draw T) (hr.mono (by decide)) px (da_cons (de_var 0) (da_cons (de_len rfl T.n_len (da_cons (de_var 1) da_nil)) da_nil))))))

theorem c_L_place (T : Top P w K mg base tb) : Cal P w K mg base (clsOf mg tb) "_law_place" 3 1 m_L_place := by
  obtain ⟨f, fd, F, hm, hb⟩ := T.d_L_place
  refine cal_of (ps := ["_law_box"]) F sc_L_place hm hb (fun cdv hcv A outer s H E bx F0 hr => ?_) (fun ds w _ => rfl)
  have px := passes_call (E := E) (takes_of (X := cxOf (L2.CX P w) P w K mg base ["_law_box"] "_law_place" (defScope s_L_place) f cdv A outer s H E) rfl rfl rfl rfl) (fun _ _ _ _ h => h)
  exact (dss_one (ds_ret (de_tup (da_cons (de_call rfl (c_L_any T) (hr.mono (by decide)) px (da_cons (de_var 0) (da_cons de_str da_nil))) (da_cons (de_op op_addX (od_add rfl) de_int (de_call rfl (c_L_draw T) (hr.mono (by decide)) px (da_cons (de_var 0) (da_cons de_int da_nil)))) (da_cons (de_call rfl (c_L_any T) (hr.mono (by decide)) px (da_cons (de_var 0) (da_cons (DO.de (do_lst (da_cons de_str (da_cons de_str da_nil)))) da_nil))) da_nil))))))

theorem c_L_edit (T : Top P w K mg base tb) : Cal P w K mg base (clsOf mg tb) "_law_edit" 4 1 m_L_edit := by
  obtain ⟨f, fd, F, hm, hb⟩ := T.d_L_edit
  refine cal_of (ps := ["_law_box"]) F sc_L_edit hm hb (fun cdv hcv A outer s H E bx F0 hr => ?_) (fun ds w _ => rfl)
  have px := passes_call (E := E) (takes_of (X := cxOf (L2.CX P w) P w K mg base ["_law_box", "_law_word", "_law_spot"] "_law_edit" (defScope s_L_edit) f cdv A outer s H E) rfl rfl rfl rfl) (fun _ _ _ _ h => h)
  exact (dss_cons (ds_set 1 (de_call rfl (c_L_any T) (hr.mono (by decide)) px (da_cons (de_var 0) (da_cons (DO.de (do_lst (da_cons de_str (da_cons de_str (da_cons de_str (da_cons de_str (da_cons de_str (da_cons de_str (da_cons de_str (da_cons de_str (da_cons de_str da_nil))))))))))) da_nil))) sc_L_edit.nd)
    (dss_cons (ds_if (dt_cmp (op_eqX (u64 hr)) (od_eq rfl) (de_var 1) de_str) (dss_one (ds_ret (de_tup (da_cons (de_var 1) da_nil)))) dss_nil)
    (dss_cons (ds_if (dt_cmp (op_inX (u65 hr)) (od_in rfl) (de_var 1) (de_tup (da_cons de_str (da_cons de_str da_nil)))) (dss_one (ds_ret (de_tup (da_cons (de_var 1) (da_cons (de_call rfl (c_L_any T) (hr.mono (by decide)) px (da_cons (de_var 0) (da_cons de_str da_nil))) da_nil))))) dss_nil)
    (dss_cons (ds_set 2 (de_call rfl (c_L_place T) (hr.mono (by decide)) px (da_cons (de_var 0) da_nil)) sc_L_edit.nd)
    (dss_one (ds_ret (de_if (dt_cmp (op_inX (u65 hr)) (od_in rfl) (de_var 1) (de_tup (da_cons de_str (da_cons de_str da_nil)))) (de_tup (da_cons (de_var 1) (da_cons (de_var 2) (da_cons (de_call rfl (c_L_any T) (hr.mono (by decide)) px (da_cons (de_var 0) (da_cons de_str da_nil))) da_nil)))) (de_tup (da_cons (de_var 1) (da_cons (de_var 2) da_nil))))))))))

theorem c_L_whole (T : Top P w K mg base tb) : Cal P w K mg base (clsOf mg tb) "_law_whole" 1 1 m_L_whole := by
  obtain ⟨f, fd, F, hm, hb⟩ := T.d_L_whole
  refine cal_of (ps := ["_law_found"]) F sc_L_whole hm hb (fun cdv hcv A outer s H E bx F0 hr => ?_) (fun ds w _ => rfl)
  have px := passes_call (E := E) (takes_of (X := cxOf (L2.CX P w) P w K mg base ["_law_found"] "_law_whole" (defScope s_L_whole) f cdv A outer s H E) rfl rfl rfl rfl) (fun _ _ _ _ h => h)
  exact (dss_one (ds_ret (de_and (de_isi rfl kit_int T.n_int (by decide +kernel) T.n_isinstance (de_var 0)) (de_one (de_not (de_isi rfl kit_bool T.n_bool (by decide +kernel) T.n_isinstance (de_var 0)))))))

theorem c_L_same (T : Top P w K mg base tb) : ∀ k : Nat, Cal P w K mg base (clsOf mg tb) "_law_same" (k + 1) 2 (mSame k)
  | 0 => by
    obtain ⟨f, fd, F, hm, hb⟩ := T.d_L_same
    exact cal_of (ps := ["_law_found", "_law_due"]) (k := 0) F sc_L_same hm hb (body := fun _ _ => .bad) (fun cdv hcv A outer s H E bx F0 hr => ⟨_, pss_never, fun _ _ _ _ _ _ _ _ h => h⟩) (fun ds w h => absurd (mSame_zero ds w) h)
  | k + 1 => by
    obtain ⟨f, fd, F, hm, hb⟩ := T.d_L_same
    have ih := c_L_same T k
    refine cal_of (ps := ["_law_found", "_law_due"]) F sc_L_same hm hb (fun cdv hcv A outer s H E bx F0 hr => ?_) (same_ok k)
    have px := passes_call (E := E) (takes_of (X := cxOf (L2.CX P w) P w K mg base ["_law_found", "_law_due", "_law_one", "_law_other"] "_law_same" (defScope s_L_same) f cdv A outer s H E) rfl rfl rfl rfl) (fun _ _ _ _ h => h)
    exact (dss_cons (ds_if (dt_cmp op_isN od_is (de_var 1) de_non) (dss_one (ds_ret (de_cmp op_isN od_is (de_var 0) de_non))) dss_nil)
    (dss_cons (ds_if (dt_val (de_isi rfl kit_bool T.n_bool (by decide +kernel) T.n_isinstance (de_var 1))) (dss_one (ds_ret (de_and (de_isi rfl kit_bool T.n_bool (by decide +kernel) T.n_isinstance (de_var 0)) (de_one (de_cmp (op_eqX (u64 hr)) (od_eq rfl) (de_var 0) (de_var 1)))))) dss_nil)
    (dss_cons (ds_if (dt_val (de_isi rfl kit_int T.n_int (by decide +kernel) T.n_isinstance (de_var 1))) (dss_one (ds_ret (de_and (de_call rfl (c_L_whole T) (hr.mono (by omega)) px (da_cons (de_var 0) da_nil)) (de_one (de_cmp (op_eqX (u64 hr)) (od_eq rfl) (de_var 0) (de_var 1)))))) dss_nil)
    (dss_cons (ds_if (dt_val (de_isi rfl kit_str T.n_str (by decide +kernel) T.n_isinstance (de_var 1))) (dss_one (ds_ret (de_and (de_isi rfl kit_str T.n_str (by decide +kernel) T.n_isinstance (de_var 0)) (de_one (de_cmp (op_eqX (u64 hr)) (od_eq rfl) (de_var 0) (de_var 1)))))) dss_nil)
    (dss_cons (ds_if (DW.t (dw_and (dt_val (de_isi rfl kit_tuple T.n_tuple (by decide +kernel) T.n_isinstance (de_var 1))) (dw_and1 (dt_not (dt_val (de_isi rfl kit_tuple T.n_tuple (by decide +kernel) T.n_isinstance (de_var 0))))))) (dss_one (ds_ret de_bl)) dss_nil)
    (dss_cons (ds_if (DW.t (dw_and (dt_val (de_isi rfl kit_list T.n_list (by decide +kernel) T.n_isinstance (de_var 1))) (dw_and1 (dt_not (dt_val (de_isi rfl kit_list T.n_list (by decide +kernel) T.n_isinstance (de_var 0))))))) (dss_one (ds_ret de_bl)) dss_nil)
    (dss_one (ds_ret (de_and (de_cmp (op_eqX (u64 hr)) (od_eq rfl) (de_len rfl T.n_len (da_cons (de_var 0) da_nil)) (de_len rfl T.n_len (da_cons (de_var 1) da_nil))) (de_one (de_all rfl rfl T.n_all (da_cons (DO.de (do_lc [("_law_one", 2), ("_law_other", 3)] rfl sc_L_same.nd (di_zip rfl T.n_zip (da_cons (de_var 0) (da_cons (de_var 1) da_nil))) (blkOk_by (own := [("_law_one", 2), ("_law_other", 3)]) (N := ["_law_found", "_law_due", "_law_one", "_law_other"]) (sc := defScope s_L_same) (by decide +kernel)) (fun _ _ _ _ _ => (dg_tup rfl (dgs_cons (dg_name 2 sc_L_same.nd) (dgs_cons (dg_name 3 sc_L_same.nd) dgs_nil)) (fun _ h => pg_tup rfl h) (gs_len (gs_len gs_len0)))) (fun _ _ _ _ _ => dts_nil) (fun _ _ _ _ _ => (de_call rfl ih (hr.mono (by omega)) passL (da_cons (de_var 2) (da_cons (de_var 3) da_nil)))))) da_nil))))))))))))

theorem c_L_places (T : Top P w K mg base tb) : Cal P w K mg base (clsOf mg tb) "_law_places" 1 0 m_L_places := by
  obtain ⟨f, fd, F, hm, hb⟩ := T.d_L_places
  refine cal_of (ps := []) F sc_L_places hm hb (fun cdv hcv A outer s H E bx F0 hr => ?_) (fun ds w _ => rfl)
  have px := passes_call (E := E) (takes_of (X := cxOf (L2.CX P w) P w K mg base ["_law_found", "_law_symbol", "_law_number"] "_law_places" (defScope s_L_places) f cdv A outer s H E) rfl rfl rfl rfl) (fun _ _ _ _ h => h)
  exact (dss_cons (ds_set 0 (DO.de (do_lst da_nil)) sc_L_places.nd)
    (dss_cons (ds_for (passes_of rfl) rfl (di_any rfl de_str) (dg_name 1 sc_L_places.nd) (dss_one (ds_for (passes_of rfl) rfl (di_any rfl (de_tup (da_cons de_int (da_cons de_int da_nil)))) (dg_name 2 sc_L_places.nd) (dss_one (ds_set 0 (de_op op_addX (od_add rfl) (de_var 0) (DO.de (do_lst (da_cons (de_tup (da_cons (de_var 1) (da_cons (de_var 2) (da_cons de_str da_nil)))) (da_cons (de_tup (da_cons (de_var 1) (da_cons (de_var 2) (da_cons de_str da_nil)))) da_nil))))) sc_L_places.nd)))))
    (dss_one (ds_ret (de_var 0)))))

theorem c_L_shelf (T : Top P w K mg base tb) : Cal P w K mg base (clsOf mg tb) "_law_shelf" 2 0 m_L_shelf := by
  obtain ⟨f, fd, F, hm, hb⟩ := T.d_L_shelf
  refine cal_of (ps := []) F sc_L_shelf hm hb (fun cdv hcv A outer s H E bx F0 hr => ?_) (fun ds w _ => rfl)
  have px := passes_call (E := E) (takes_of (X := cxOf (L2.CX P w) P w K mg base ["_law_found", "_law_word", "_law_place_here"] "_law_shelf" (defScope s_L_shelf) f cdv A outer s H E) rfl rfl rfl rfl) (fun _ _ _ _ h => h)
  exact (dss_cons (ds_set 0 (DO.de (do_lst (da_cons (de_tup (da_cons de_str da_nil)) (da_cons (de_tup (da_cons de_str (da_cons de_str da_nil))) (da_cons (de_tup (da_cons de_str (da_cons de_str da_nil))) (da_cons (de_tup (da_cons de_str (da_cons de_str da_nil))) (da_cons (de_tup (da_cons de_str (da_cons de_str da_nil))) da_nil))))))) sc_L_shelf.nd)
    (dss_cons (ds_for (passes_of rfl) rfl (di_any rfl (de_tup (da_cons de_str (da_cons de_str da_nil)))) (dg_name 1 sc_L_shelf.nd) (dss_one (ds_for (passes_of rfl) rfl (di_any rfl (de_call0 rfl (c_L_places T) (hr.mono (by decide)) px)) (dg_name 2 sc_L_shelf.nd) (dss_one (ds_set 0 (de_op op_addX (od_add rfl) (de_var 0) (DO.de (do_lst (da_cons (de_tup (da_cons (de_var 1) (da_cons (de_var 2) (da_cons de_str da_nil)))) (da_cons (de_tup (da_cons (de_var 1) (da_cons (de_var 2) (da_cons de_str da_nil)))) da_nil))))) sc_L_shelf.nd)))))
    (dss_cons (ds_for (passes_of rfl) rfl (di_any rfl (de_tup (da_cons de_str (da_cons de_str da_nil)))) (dg_name 1 sc_L_shelf.nd) (dss_one (ds_set 0 (de_op op_addX (od_add rfl) (de_var 0) (DO.de (do_lc [("_law_place_here", 2)] rfl sc_L_shelf.nd (di_any rfl (de_call0 rfl (c_L_places T) (hr.mono (by decide)) px)) (blkOk_by (own := [("_law_place_here", 2)]) (N := ["_law_found", "_law_word", "_law_place_here"]) (sc := defScope s_L_shelf) (by decide +kernel)) (fun _ _ _ _ _ => (dg_name 2 sc_L_shelf.nd)) (fun _ _ _ _ _ => dts_nil) (fun _ _ _ _ _ => (de_tup (da_cons (de_var 1) (da_cons (de_var 2) da_nil))))))) sc_L_shelf.nd)))
    (dss_one (ds_ret (de_var 0))))))

theorem c_L_spoilt (T : Top P w K mg base tb) : Cal P w K mg base (clsOf mg tb) "_law_spoilt" 3 2 m_L_spoilt := by
  obtain ⟨f, fd, F, hm, hb⟩ := T.d_L_spoilt
  refine cal_of (ps := ["_law_box", "_law_text"]) F sc_L_spoilt hm hb (fun cdv hcv A outer s H E bx F0 hr => ?_) (fun ds w _ => rfl)
  have px := passes_call (E := E) (takes_of (X := cxOf (L2.CX P w) P w K mg base ["_law_box", "_law_text", "_law_words", "_law_at", "_law_odd", "_law_way"] "_law_spoilt" (defScope s_L_spoilt) f cdv A outer s H E) rfl rfl rfl rfl) (fun _ _ _ _ h => h)
  exact (dss_cons (ds_set 2 (de_split (de_var 1) de_str) sc_L_spoilt.nd)
    (dss_cons (ds_set 3 (de_call rfl (c_L_draw T) (hr.mono (by decide)) px (da_cons (de_var 0) (da_cons (de_len rfl T.n_len (da_cons (de_var 2) da_nil)) da_nil))) sc_L_spoilt.nd)
    (dss_cons (ds_set 4 (de_call rfl (c_L_any T) (hr.mono (by decide)) px (da_cons (de_var 0) (da_cons (DO.de (do_lst (da_cons de_str (da_cons de_str (da_cons de_str (da_cons de_str (da_cons de_str (da_cons de_str (da_cons de_str (da_cons de_str (da_cons de_str (da_cons de_str (da_cons de_str (da_cons de_str (da_cons de_str da_nil))))))))))))))) da_nil))) sc_L_spoilt.nd)
    (dss_cons (ds_set 5 (de_call rfl (c_L_draw T) (hr.mono (by decide)) px (da_cons (de_var 0) (da_cons de_int da_nil))) sc_L_spoilt.nd)
    (dss_cons (ds_if (dt_cmp (op_eqX (u64 hr)) (od_eq rfl) (de_var 5) de_int) (dss_one (ds_ret (de_op op_addX (od_add rfl) (de_var 1) (de_call rfl (c_L_any T) (hr.mono (by decide)) px (da_cons (de_var 0) (da_cons (DO.de (do_lst (da_cons de_str (da_cons de_str (da_cons de_str da_nil))))) da_nil)))))) dss_nil)
    (dss_one (ds_ret (de_join rfl de_str (de_op op_addX (od_add rfl) (de_op op_addX (od_add rfl) (de_slice rfl (de_var 2) dp_none (dp_some (de_var 3))) (de_op op_mulX od_mul (DO.de (do_lst (da_cons (de_var 4) da_nil))) (de_intI T.n_int (da_cons (de_cmp op_gt od_B0 (de_var 5) de_int) da_nil)))) (de_slice rfl (de_var 2) (dp_some (de_op op_sub od_sub (de_op op_addX (od_add rfl) (de_var 3) de_int) (de_op op_fdiv od_div (de_var 5) de_int))) dp_none))))))))))

theorem c_parse_edit (T : Top P w K mg base tb) : Cal P w K mg base (clsOf mg tb) "parse_edit" 3 1 m_parse_edit := by
  obtain ⟨f, fd, F, hm, hb⟩ := T.d_parse_edit
  refine cal_of (ps := ["text"]) F sc_parse_edit hm hb (fun cdv hcv A outer s H E bx F0 hr => ?_) (fun ds w _ => rfl)
  have px := passes_call (E := E) (takes_of (X := cxOf (L2.CX P w) P w K mg base ["text", "edit"] "parse_edit" (defScope s_parse_edit) f cdv A outer s H E) rfl rfl rfl rfl) (fun _ _ _ _ h => h)
  have tk := takes_of (X := cxOf (L2.CX P w) P w K mg base ["text", "edit"] "parse_edit" (defScope s_parse_edit) f cdv A outer s H E) rfl rfl rfl rfl
  have p0 := passes_call (E := fun _ _ _ => False) tk (fun _ _ _ _ h => h.elim)
  exact (dss_cons (ds_for (passes_of rfl) rfl (di_any rfl (de_call0 rfl (c_shelf T) (hr.mono (by decide)) px)) (dg_name 1 sc_parse_edit.nd) (dss_one (ds_if (dt_cmp (op_eqX (u64 hr)) (od_eq rfl) (de_call rfl (c_format_edit T) (hr.mono (by decide)) px (da_cons (de_var 1) da_nil)) (de_var 0)) (dss_one (ds_ret (de_var 1))) dss_nil)))
    (dss_one (ds_raise rfl (x_ParseError T) (hr.mono (by decide)) tk de_int p0)))

theorem ok_law (T : Top P w K mg base tb) : ∃ f fd, Fun K "law" "law" s_law f fd ∧ mg "law" = some (.ref f) ∧ FnOk P w K mg base (L2.CX P w) 10 f fd ["_law_script"] (spLaw K tb) := by
  obtain ⟨f, fd, F, hm, hb⟩ := T.d_law
  obtain ⟨fo, fdo, FO, mo, ko, bo⟩ := ok_open (P := P) (w := w) (base := base) (tb := tb) T
  obtain ⟨fl, cc, PP, hml, hcc, TB, hmem, huni⟩ := T.lam_law
  obtain rfl : f = fl := by rw [hm] at hml; cases hml; rfl
  refine ⟨f, fd, F, hm, law_of (cls := clsOf mg tb) (body := g_law) F sc_law ⟨_, rfl⟩ rfl (fun cdv A outer s H E hr => ps_set (i := 1) sc_law.nd rfl (.inl rfl) (pe_call FO (hr.mono (by decide)) rfl mo ko bo .nil passL (pa_cons (pv 0) pa_nil))) (fun cdv hcv A outer s H E bx F0 H0 hcl hr => ?_) (fun w _ => law_true w)⟩
  obtain rfl := hcc cdv hcv
  have px := passes_call (E := E) (takes_of (X := cxOf (L2.CX P w) P w K mg base ["_law_script", "_law_box", "_law_texts", "_law_turn", "_law_asks", "_law_edit_here", "_law_text", "_law_bent", "_law_ask"] "law" (defScope s_law) f (.ref cc) A outer s H E) rfl rfl rfl rfl) (fun _ _ _ _ h => h)
  exact (dss_cons (ds_setLc 2 [("_law_edit_here", 5)] rfl sc_law.nd rfl rfl (sw_true rfl rfl rfl (by decide +kernel)) (di_any rfl (de_call0 rfl (c_L_shelf T) (hr.mono (by decide)) px)) (blkOk_by (own := [("_law_edit_here", 5)]) (N := ["_law_script", "_law_box", "_law_texts", "_law_turn", "_law_asks", "_law_edit_here", "_law_text", "_law_bent", "_law_ask"]) (sc := defScope s_law) (by decide +kernel)) (fun _ _ _ _ _ => (dg_name 5 sc_law.nd)) (fun _ _ _ _ _ => dts_nil) (fun _ _ _ _ _ => (de_call rfl (c_L_spelled T) (hr.mono (by decide)) passL (da_cons (de_var 5) da_nil))))
    (dss_cons (ds_for (passes_of rfl) rfl (di_range T.n_range (da_cons de_int da_nil)) (dg_name 3 sc_law.nd) (dss_cons (ds_set 5 (de_call rfl (c_L_edit T) (hr.mono (by decide)) px (da_cons (de_var 1) da_nil)) sc_law.nd)
    (dss_cons (ds_set 6 (de_call rfl (c_L_spelled T) (hr.mono (by decide)) px (da_cons (de_var 5) da_nil)) sc_law.nd)
    (dss_cons (ds_if (dt_not (dt_val (de_call rfl (c_L_same T 8) (hr.mono (by decide)) px (da_cons (DO.de (do_lst (da_cons (de_call rfl (c_format_edit T) (hr.mono (by decide)) px (da_cons (de_var 5) da_nil)) (da_cons (de_call rfl (c_parse_edit T) (hr.mono (by decide)) px (da_cons (de_var 6) da_nil)) da_nil)))) (da_cons (DO.de (do_lst (da_cons (de_var 6) (da_cons (de_var 5) da_nil)))) da_nil))))) (dss_one (ds_ret de_bl)) dss_nil)
    (dss_cons (ds_set 7 (de_call rfl (c_L_spoilt T) (hr.mono (by decide)) px (da_cons (de_var 1) (da_cons (de_var 6) da_nil))) sc_law.nd)
    (dss_one (ds_if (dt_cmp (op_inX (u65 hr)) (od_in rfl) (de_var 7) (de_var 2)) (dss_one (ds_if (dt_not (dt_val (de_call rfl (c_L_same T 8) (hr.mono (by decide)) px (da_cons (de_call rfl (c_parse_edit T) (hr.mono (by decide)) px (da_cons (de_var 7) da_nil)) (da_cons (de_ix rfl (de_call0 rfl (c_L_shelf T) (hr.mono (by decide)) px) (de_index rfl (u65 hr) (de_var 2) (de_var 7))) da_nil))))) (dss_one (ds_ret de_bl)) dss_nil)) (dss_one (ds_if (dt_cmp (op_neX (u64 hr)) (od_ne rfl) (de_refused (k := 3) rfl T.ref TB rfl hmem huni (hr.mono (by decide)) (fun A outer s H E f c' hr => (de_call rfl (c_parse_edit T) (hr.mono (by decide)) (passes_call (takes_of rfl rfl rfl rfl) (fun _ _ _ _ h => h)) (da_cons (de_var 7) da_nil))) (LamX.lamS_by (sc := defScope s_law) (by decide +kernel))) (de_tup (da_cons de_str (da_cons de_int da_nil)))) (dss_one (ds_ret de_bl)) dss_nil)))))))))
    (dss_cons (ds_lams 4 (ls := la_law_0) (by rfl) hcl (.cons (pe_lam0 TB rfl hmem huni (lamN_by (N := ["_law_script", "_law_box", "_law_texts", "_law_turn", "_law_asks", "_law_edit_here", "_law_text", "_law_bent", "_law_ask"]) (sc := defScope s_law) (by decide +kernel)).free rfl rfl) rfl (.cons (pe_lam1 TB rfl hmem huni (lamN_by (N := ["_law_script", "_law_box", "_law_texts", "_law_turn", "_law_asks", "_law_edit_here", "_law_text", "_law_bent", "_law_ask"]) (sc := defScope s_law) (by decide +kernel)).free rfl rfl) rfl .nil)) sc_law.nd)
    (dss_one (ds_ret (de_cmp (op_eqX (u64 hr)) (od_eq rfl) (DO.de (do_refs 4 8 (k := 3) (ls := la_law_0) [("_law_ask", 8)] rfl hcl T.ref (.cons ⟨rfl, (lamN_by (N := ["_law_script", "_law_box", "_law_texts", "_law_turn", "_law_asks", "_law_edit_here", "_law_text", "_law_bent", "_law_ask"]) (sc := defScope s_law) (by decide +kernel)), (.non rfl (fun _ _ _ _ _ => rfl)), fun A outer s H E f c' hr => (de_call rfl (c_parse_edit T) (hr.mono (by decide)) (passes_call (takes_of rfl rfl rfl rfl) (fun _ _ _ _ h => h)) (da_cons de_str da_nil))⟩ (.cons ⟨rfl, (lamN_by (N := ["_law_script", "_law_box", "_law_texts", "_law_turn", "_law_asks", "_law_edit_here", "_law_text", "_law_bent", "_law_ask"]) (sc := defScope s_law) (by decide +kernel)), (.dfl "_law_x" rfl (List.cons_ne_nil _ _) (fun _ _ _ _ _ _ => ⟨_, rfl, fun _ => rfl⟩)), fun A outer s H E f c' hr => (de_call rfl (c_parse_edit T) (hr.mono (by decide)) (passes_call (takes_of rfl rfl rfl rfl) (fun _ _ _ _ h => h)) (da_cons de_str da_nil))⟩ .nil)) (hr.mono (by decide)) rfl sc_law.nd (blkOk_by (own := [("_law_ask", 8)]) (N := ["_law_script", "_law_box", "_law_texts", "_law_turn", "_law_asks", "_law_edit_here", "_law_text", "_law_bent", "_law_ask"]) (sc := defScope s_law) (by decide +kernel)) rfl (.inl rfl) rfl (by decide) (fun _ _ _ _ _ => rfl) (fun _ _ => rfl) (fun _ _ => rfl))) (de_op op_mulX od_mul (DO.de (do_lst (da_cons (de_tup (da_cons de_str (da_cons de_int da_nil))) da_nil))) de_int)))))))
end
theorem all_mk {l : PySem.W.OpenLaw} {w : World} {K : Fr} {h : Heap} {mg : Str → Option Value} {fa : Addr} (hl : l.prog = PySem.Challenge.pw_countedplace_k10_texts_of_edits) (X : K.In h) (G : h.Ns mainGlobals mg) (hfa : mg "law" = some (.ref fa)) (S : Says tell w h K) :
    LamX.LawAtS l w K (L2.CX l.prog w) 10 63 "_law_script" mg fa h := by
  obtain ⟨fd0, F0⟩ := S.f 0 (x := a0) rfl rfl
  obtain ⟨ocR, odR, kVR, dcR, pmR, anR, cdR, ctR, slR, eR, lR, cR⟩ := F0.ex
  subst eR
  obtain ⟨fd1, F1⟩ := S.f 1 (x := a1) rfl rfl
  obtain ⟨fd2, F2⟩ := S.f 2 (x := a2) rfl rfl
  obtain ⟨fd3, F3⟩ := S.f 3 (x := a3) rfl rfl
  obtain ⟨fd4, F4⟩ := S.f 4 (x := a4) rfl rfl
  obtain ⟨fd5, F5⟩ := S.f 5 (x := a5) rfl rfl
  obtain ⟨fd6, F6⟩ := S.f 6 (x := a6) rfl rfl
  obtain ⟨fd7, F7⟩ := S.f 7 (x := a7) rfl rfl
  obtain ⟨fd8, F8⟩ := S.f 8 (x := a8) rfl rfl
  obtain ⟨fd9, F9⟩ := S.f 9 (x := a9) rfl rfl
  obtain ⟨fd10, F10⟩ := S.f 10 (x := a10) rfl rfl
  obtain ⟨fd11, F11⟩ := S.f 11 (x := a11) rfl rfl
  obtain ⟨fd12, F12⟩ := S.f 12 (x := a12) rfl rfl
  obtain ⟨fd13, F13⟩ := S.f 13 (x := a13) rfl rfl
  obtain ⟨fd14, F14⟩ := S.f 14 (x := a14) rfl rfl
  obtain ⟨fd15, F15⟩ := S.f 15 (x := a15) rfl rfl
  obtain ⟨fd16, F16⟩ := S.f 16 (x := a16) rfl rfl
  obtain ⟨fd17, F17⟩ := S.f 17 (x := a17) rfl rfl
  obtain ⟨lt0, lh0, lo0, lg0⟩ := S.lamt 0 (x := "law") rfl
  have e := hfa.symm.trans (PySem.W.mg_of X G (S.q 65 (q := c65) rfl))
  cases e
  rw [hl]
  refine ⟨fd17, [(lamC K "law", lamP K "law")], spLaw K [(lamP K "law", ("law" ++ ".<locals>." ++ "<lambda>"))], all1 (lg0), all1 (lo0), all1 (PySem.W.codeHd_of_K X lh0), fun s v => by obtain ⟨_, _, _, _, _, _, _, _, _, e, _, _⟩ := F17.ex; rw [e]; exact .of_eq rfl, fun H a ns hl _ hH hS => ⟨a, ns, rfl, hS, hl, tabs_start (all1 (hH _ (.head _))), fun _ => rfl⟩, fun base _ _ hTB => ?_⟩
  have T : Top PySem.Challenge.pw_countedplace_k10_texts_of_edits w K mg base [(lamP K "law", ("law" ++ ".<locals>." ++ "<lambda>"))] := ⟨PySem.W.mg_none_of X G (S.q 0 (q := c0) rfl), PySem.W.mg_none_of X G (S.q 1 (q := c1) rfl), PySem.W.mg_none_of X G (S.q 2 (q := c2) rfl), PySem.W.mg_none_of X G (S.q 3 (q := c3) rfl), PySem.W.mg_none_of X G (S.q 4 (q := c4) rfl), PySem.W.mg_none_of X G (S.q 5 (q := c5) rfl), PySem.W.mg_none_of X G (S.q 6 (q := c6) rfl), PySem.W.mg_none_of X G (S.q 7 (q := c7) rfl), PySem.W.mg_none_of X G (S.q 8 (q := c8) rfl), PySem.W.mg_none_of X G (S.q 9 (q := c9) rfl), glb_tupB (X := X) G (S.q 10 (q := c10) rfl) (S.q 11 (q := c11) rfl) fun _ _ => (.cons (.str _) (.cons (.str _) .nil)), glb_tupB (X := X) G (S.q 12 (q := c12) rfl) (S.q 13 (q := c13) rfl) fun _ _ => (.cons (.int _) (.cons (.int _) .nil)), glb_strB (X := X) G (S.q 14 (q := c14) rfl), ⟨(He.ga K "_law_refused"), "_law_ask", "_law_told", "e", _, _, _, _, _, _, _, _, _, _, _, _, _, _, _, _, _, _, _, _, _, _, _, _, _, _, _, _, _, (PySem.W.mg_of X G (S.q 43 (q := c43) rfl)), F0.kp, lR, cR, F0.binds (ps := ["_law_ask"]) fun _ _ _ _ _ _ us hl => match us, hl with | [_], _ => rfl, sc_L_refused, rfl, rfl, rfl, by decide, (.fld (.tup (.cons rfl (PySem.W.mg_of X G (S.q 34 (q := c34) rfl)) rfl (.cons rfl (PySem.W.mg_of X G (S.q 33 (q := c33) rfl)) rfl (.cons rfl (PySem.W.mg_of X G (S.q 32 (q := c32) rfl)) rfl .nil))) (Nat.le_of_ble_eq_true rfl) (Nat.le_of_ble_eq_true rfl)) (by decide) (.fld (.tup (.cons rfl (PySem.W.mg_of X G (S.q 31 (q := c31) rfl)) rfl (.cons rfl (PySem.W.mg_of X G (S.q 30 (q := c30) rfl)) rfl (.cons rfl (PySem.W.mg_of X G (S.q 29 (q := c29) rfl)) rfl .nil))) (Nat.le_of_ble_eq_true rfl) (Nat.le_of_ble_eq_true rfl)) (by decide) (.fld (.tup (.cons rfl (PySem.W.mg_of X G (S.q 28 (q := c28) rfl)) rfl (.cons rfl (PySem.W.mg_of X G (S.q 27 (q := c27) rfl)) rfl .nil)) (Nat.le_of_ble_eq_true rfl) (Nat.le_of_ble_eq_true rfl)) (by decide) (.fld (.tup (.cons rfl (PySem.W.mg_of X G (S.q 26 (q := c26) rfl)) rfl (.cons rfl (PySem.W.mg_of X G (S.q 25 (q := c25) rfl)) rfl .nil)) (Nat.le_of_ble_eq_true rfl) (Nat.le_of_ble_eq_true rfl)) (by decide) (.fld (.tup (.cons rfl (PySem.W.mg_of X G (S.q 24 (q := c24) rfl)) rfl (.cons rfl (PySem.W.mg_of X G (S.q 23 (q := c23) rfl)) rfl (.cons rfl (PySem.W.mg_of X G (S.q 22 (q := c22) rfl)) rfl (.cons rfl (PySem.W.mg_of X G (S.q 21 (q := c21) rfl)) rfl (.cons rfl (PySem.W.mg_of X G (S.q 20 (q := c20) rfl)) rfl .nil))))) (Nat.le_of_ble_eq_true rfl) (Nat.le_of_ble_eq_true rfl)) (by decide) (.fld (.tup (.cons rfl (PySem.W.mg_of X G (S.q 19 (q := c19) rfl)) rfl (.cons rfl (PySem.W.mg_of X G (S.q 18 (q := c18) rfl)) rfl .nil)) (Nat.le_of_ble_eq_true rfl) (Nat.le_of_ble_eq_true rfl)) (by decide) (.fld (.one rfl (PySem.W.mg_of X G (S.q 17 (q := c17) rfl)) rfl) (by decide) (.fld (.one rfl (PySem.W.mg_of X G (S.q 16 (q := c16) rfl)) rfl) (by decide) (.non (.one rfl (PySem.W.mg_of X G (S.q 15 (q := c15) rfl)) rfl) .nil))))))))), (tbl_cons ⟨(He.ga K "ParseError"), clsOf_eq (PySem.W.mg_of X G (S.q 29 (q := c29) rfl)), ⟨⟨(S.q 35 (q := c35) rfl), (S.q 36 (q := c36) rfl), (S.q 37 (q := c37) rfl), (S.q 38 (q := c38) rfl)⟩, (S.q 39 (q := c39) rfl), fun _ => (S.q 40 (q := c40) rfl)⟩, (.inr ⟨(S.q 41 (q := c41) rfl), (.inl ⟨(S.q 42 (q := c42) rfl), rfl⟩)⟩)⟩ tbl_nil)⟩, ⟨(He.ga K "ParseError"), (He.ma K (He.ga K "ParseError") "__init__"), _, (PySem.W.mg_of X G (S.q 29 (q := c29) rfl)), ⟨oexB_ok (S.q 44 (q := c44) rfl), (S.q 45 (q := c45) rfl), (S.q 37 (q := c37) rfl), (S.q 46 (q := c46) rfl), (S.q 47 (q := c47) rfl)⟩, (S.q 48 (q := c48) rfl), (S.q 49 (q := c49) rfl), F1, (F1.binds (ps := ["self", "at"]) fun _ _ _ _ _ _ us hl => match us, hl with | [_, _], _ => rfl), (S.q 40 (q := c40) rfl), (S.q 39 (q := c39) rfl)⟩, ⟨_, _, F2, (PySem.W.mg_of X G (S.q 50 (q := c50) rfl)), F2.binds (ps := ["_law_script"]) fun _ _ _ _ _ _ us hl => match us, hl with | [_], _ => rfl⟩, ⟨_, _, F3, (PySem.W.mg_of X G (S.q 51 (q := c51) rfl)), F3.binds (ps := ["edit"]) fun _ _ _ _ _ _ us hl => match us, hl with | [_], _ => rfl⟩, ⟨_, _, F4, (PySem.W.mg_of X G (S.q 52 (q := c52) rfl)), F4.binds (ps := []) fun _ _ _ _ _ _ us hl => match us, hl with | [], _ => rfl⟩, ⟨_, _, F5, (PySem.W.mg_of X G (S.q 53 (q := c53) rfl)), F5.binds (ps := []) fun _ _ _ _ _ _ us hl => match us, hl with | [], _ => rfl⟩, ⟨_, _, F6, (PySem.W.mg_of X G (S.q 54 (q := c54) rfl)), F6.binds (ps := ["_law_edit_here"]) fun _ _ _ _ _ _ us hl => match us, hl with | [_], _ => rfl⟩, ⟨_, _, F7, (PySem.W.mg_of X G (S.q 55 (q := c55) rfl)), F7.binds (ps := ["_law_box", "_law_many"]) fun _ _ _ _ _ _ us hl => match us, hl with | [_, _], _ => rfl⟩, ⟨_, _, F8, (PySem.W.mg_of X G (S.q 56 (q := c56) rfl)), F8.binds (ps := ["_law_box", "_law_things"]) fun _ _ _ _ _ _ us hl => match us, hl with | [_, _], _ => rfl⟩, ⟨_, _, F9, (PySem.W.mg_of X G (S.q 57 (q := c57) rfl)), F9.binds (ps := ["_law_box"]) fun _ _ _ _ _ _ us hl => match us, hl with | [_], _ => rfl⟩, ⟨_, _, F10, (PySem.W.mg_of X G (S.q 58 (q := c58) rfl)), F10.binds (ps := ["_law_box"]) fun _ _ _ _ _ _ us hl => match us, hl with | [_], _ => rfl⟩, ⟨_, _, F11, (PySem.W.mg_of X G (S.q 59 (q := c59) rfl)), F11.binds (ps := ["_law_found"]) fun _ _ _ _ _ _ us hl => match us, hl with | [_], _ => rfl⟩, ⟨_, _, F12, (PySem.W.mg_of X G (S.q 60 (q := c60) rfl)), F12.binds (ps := ["_law_found", "_law_due"]) fun _ _ _ _ _ _ us hl => match us, hl with | [_, _], _ => rfl⟩, ⟨_, _, F13, (PySem.W.mg_of X G (S.q 61 (q := c61) rfl)), F13.binds (ps := []) fun _ _ _ _ _ _ us hl => match us, hl with | [], _ => rfl⟩, ⟨_, _, F14, (PySem.W.mg_of X G (S.q 62 (q := c62) rfl)), F14.binds (ps := []) fun _ _ _ _ _ _ us hl => match us, hl with | [], _ => rfl⟩, ⟨_, _, F15, (PySem.W.mg_of X G (S.q 63 (q := c63) rfl)), F15.binds (ps := ["_law_box", "_law_text"]) fun _ _ _ _ _ _ us hl => match us, hl with | [_, _], _ => rfl⟩, ⟨_, _, F16, (PySem.W.mg_of X G (S.q 64 (q := c64) rfl)), F16.binds (ps := ["text"]) fun _ _ _ _ _ _ us hl => match us, hl with | [_], _ => rfl⟩, ⟨_, _, F17, (PySem.W.mg_of X G (S.q 65 (q := c65) rfl)), F17.binds (ps := ["_law_script"]) fun _ _ _ _ _ _ us hl => match us, hl with | [_], _ => rfl⟩, lamT_mk (PySem.W.mg_of X G (S.q 65 (q := c65) rfl)) (S.q 65 (q := c65) rfl) lt0 (hTB _ (.head _)) (.head _) (all1 (fun _ => rfl))⟩
  obtain ⟨f, fd, F, hm, hk⟩ := ok_law (P := PySem.Challenge.pw_countedplace_k10_texts_of_edits) (w := w) (base := base) (tb := [(lamP K "law", ("law" ++ ".<locals>." ++ "<lambda>"))]) T
  rw [(PySem.W.mg_of X G (S.q 65 (q := c65) rfl))] at hm
  cases hm
  have e2 := fun_one F F17
  rw [e2] at hk
  rw [hl]
  exact hk
end Z
open PySem PySem.W PySem.Calls PyProof.Rows
set_option maxHeartbeats 0 in
theorem PySem.Challenge.cw_countedplace_k10_texts_of_edits_holds : PySem.Challenge.rw_countedplace_k10_texts_of_edits.Holds := by
  w_on; o_law
  refine HandSHeadRun.head_any (q := view (OpenLaw.row PySem.Challenge.rw_countedplace_k10_texts_of_edits).prog [44]) (H := Z.hk) (ob := Y.obY 6 Z.tell) (M := 20000) (loose := Z.loose) (d := HandSHeadRun.topDef (OpenLaw.row PySem.Challenge.rw_countedplace_k10_texts_of_edits).prog 44) (kwd := []) Y.obY_eq (by kernel_rfl) (fun s => by kernel_rfl) Z.run (by kernel_rfl) (by kernel_rfl) (by kernel_rfl) (by rfl) (by first | assumption | decide +kernel) (by decide +kernel) ⟨rfl, rfl, rfl, rfl, rfl, by decide +kernel⟩ ?hw ?hc
  case hc => exact LamX.walk_ofTsE (l := PySem.Challenge.rw_countedplace_k10_texts_of_edits) (n := 63) (k := 10) (x := "_law_script") (CX := fun w => L2.CX PySem.Challenge.rw_countedplace_k10_texts_of_edits.prog w) rfl (by decide) (by kernel_rfl) ⟨rfl, by decide, by decide⟩ (fun w mg fa h ⟨K, KX, S⟩ G hm => ⟨K, KX, Z.all_mk rfl KX G (Y.name_eq (by kernel_rfl) hm) S⟩) (fun _ _ _ _ _ h => Y.cx_false h)
  case hw => w_witness2
