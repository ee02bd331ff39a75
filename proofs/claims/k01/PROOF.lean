import PyProof.Rows.All
import Wide.All
import OpenK.AllK
import Wide.FinOn
import KE.KStateDown
import HandS.Base
import HandS.Call
import HandS.Words
import HandS.WordsExc
import HandS.Exc
import HandS.ExcInit
import HandS.Head0
import HandS.Head1
import HandS.Head2
import HandS.HeadHook1
import HandS.HeadHook2
import HandS.ForMost
import HandS.ForExc
import HandS.Spec
import KE.KDictKeyed
import HandS.CallSlots
import HandS.TupAny
import HandS.IsInst
import HandS.Flow
import HandS.Style
import HandS.TupLe
import PyProof.NeKinds
import HandS.ExcOwn
import HandS.More
import HandS.Small
import HandS.ExcIs
import HandS.ExcField
import HandS.Defaults
import HandS.FStr
import HandS.Star
import HandS.Text
import HandS.OwnEq
import PyProof.ReprRoads
import PyProof.StrLawsRepr
import HandS.Zip
import KE.GoesMore
import HandS.ClsMeth
import HandS.CallLocal
import PyProof.RulesMatch
import KE.KEqDict
import KE.KDictLaw
import PyProof.Rows.ListStrD
import HandS.MakeKw
import HandS.Property
import HandS.ListItems
import KE.SortKeyHeap
import HandS.SortKw
import KE.DataCmp
import KE.SortLaws
import PyProof.StrOps2
import HandS.TryMany
import HandS.DictComp
import HandS.Iter
import KE.KDictDisplayH
import HandS.DictTup
import HandS.Conv
import KE.KWithOwn
import KE.KDictZip
import PyProof.ToksMono
import HandS.ReplaceLit
import KE.KUnpackStar
import KE.KIntText
import PyProof.CallStr
import HandS.MakeKwOnly
import PySem.Challenge.RW_laytwice_k01_errors
set_option Elab.async false
set_option linter.all false
set_option maxRecDepth 100000
namespace LawO
open PySem PySem.W PySem.Calls PyProof.Rows
set_option maxHeartbeats 0 in
theorem opened (h : (PySem.Challenge.rw_laytwice_k01_errors).row.wellSaid = true → (PySem.Challenge.rw_laytwice_k01_errors).row.Holds) : (PySem.Challenge.rw_laytwice_k01_errors).Holds := by
  w_on; o_law
  exact h (by assumption)
end LawO
set_option Elab.async false
set_option linter.all false
set_option maxRecDepth 100000
namespace LT
open PySem PySem.Spec PyProof.Rows L2

def refsQ (o : Obj) : List Addr := match o.data with
  | .seq its _ => (match Nat.ble its.size 64 with
    | true => He.refsD o
    | false => [])
  | _ => He.refsD o
def reachQ (g : Addr → Option Obj) : Nat → List Addr → Nat → List Addr
  | 0, _, _ => []
  | _ + 1, [], _ => []
  | n + 1, a :: r, seen => match Nat.testBit seen a with
    | true => reachQ g n r seen
    | false => (match g a with
      | some o => a :: HandSHeadRun.frNat (Nat.lor seen (Nat.shiftLeft 1 a)) fun seen => reachQ g n (refsQ o ++ r) seen
      | none => reachQ g n r seen)
def partQ (n : Nat) (g : Addr → Option Obj) : PySem.W.Frag := He.frG g (cStatics :: reachQ g n [mainGlobals] 0)

def fdAt (K : PySem.W.Frag) (a : Addr) : FuncData := match K.lookup a with
  | some ⟨_, _, .func fd, _⟩ => fd
  | _ => default
abbrev TxQ : Type := Option (Str × Str × Arguments × FuncBody × Scope × Addr × List (Str × Addr) × Addr)
def txAt (K : PySem.W.Frag) (a : Addr) : TxQ := match K.lookup a with
  | some ⟨_, _, .func fd, _⟩ => some (fd.name, fd.qualname, fd.params, fd.body, fd.scope, fd.globals, fd.closure, fd.builtins)
  | _ => none
structure DefQ where
  at_ : PySem.W.Frag → Addr
  name : Str
  qual : Str
  st : Stmt
def DefQ.val (d : DefQ) : TxQ := some (d.name, d.qual, defArgs d.st, .stmts (defBody d.st), defScope d.st, mainGlobals, [], builtinsNs)
theorem tx_look {K : PySem.W.Frag} {a : Addr} {nm q : Str} {st : Stmt} {dV : Value} (e : txAt K a = some (nm, q, defArgs st, .stmts (defBody st), defScope st, mainGlobals, [], builtinsNs)) (hd : (fdAt K a).defaults = dV) :
    ∃ oc od kV dc pm an ct sl, K.lookup a = some ⟨oc, od, .func (PySem.W.fnOf nm q (defArgs st) (defBody st) (defScope st) dV kV dc pm an (fdAt K a).code ct), sl⟩ := by
  unfold txAt at e
  unfold fdAt at hd ⊢
  split at e
  · rename_i oc od fd sl ho
    simp only [ho] at hd ⊢
    obtain ⟨n1, n2, n3, n4, n5, n6, n7, n8, n9, n10, n11, n12, n13, n14, n15⟩ := fd
    simp only [Option.some.injEq, Prod.mk.injEq] at e
    obtain ⟨h1, h2, h3, h4, h5, h6, h7, h8⟩ := e
    subst h1 h2 h3 h4 h5 h6 h7 h8 hd
    exact ⟨oc, od, n9, n10, n11, n12, n14, sl, rfl⟩
  · cases e

def excQ (K : PySem.W.Frag) (C : Addr) : Bool := match K.lookup C with
  | some ⟨.type c, _, .cls cd, sl⟩ => decide (c = "type") && ((match cd.mro, sl.toList with
    | .ref C' :: bm, [_, _, _, _, some (.builtin n), _] => Nat.beq C' C && (decide (n = "ValueError.__new__") && PySem.HandSPX.refsVE bm)
    | _, _ => false) && (cd.hasDict && !cd.hasDel))
  | _ => false
theorem exc_look {K : PySem.W.Frag} {C : Addr} (h : excQ K C = true) : ∃ nm q N bs bm sn sub ab col dd k0 k1 k2 k3 k5, K.lookup C = some (excClassObj nm q C N bs bm true sn sub ab col dd k0 k1 k2 k3 k5 "ValueError.__new__") ∧ PySem.HandSPX.refsVE bm = true := by
  unfold excQ at h
  split at h
  · rename_i c dd cd sl ho
    obtain ⟨hc, hq⟩ := Bool.and_eq_true_iff.mp h
    clear h
    obtain ⟨h, hx⟩ := Bool.and_eq_true_iff.mp hq
    clear hq
    obtain ⟨hh, hdl⟩ := Bool.and_eq_true_iff.mp hx
    have e : c = "type" := of_decide_eq_true hc
    subst e
    split at h
    · rename_i C' bm k0 k1 k2 k3 n k5 hm hs
      obtain ⟨e1, h2⟩ := Bool.and_eq_true_iff.mp h
      obtain ⟨e2, hr⟩ := Bool.and_eq_true_iff.mp h2
      have e3 : C' = C := Nat.eq_of_beq_eq_true e1
      have e4 : n = "ValueError.__new__" := of_decide_eq_true e2
      subst e3 e4
      obtain ⟨nm, bs, mro, ns, qn, hd, sn, sub, ab, col, del⟩ := cd
      dsimp only at hm hh hdl
      subst hm hh
      have hd2 : del = false := by
        cases del with
        | false => rfl
        | true => cases hdl
      subst hd2
      obtain ⟨sl⟩ := sl
      dsimp only at hs
      subst hs
      exact ⟨nm, qn, ns, bs, bm, sn, sub, ab, col, dd, k0, k1, k2, k3, k5, ho, hr⟩
    · cases h
  · cases h
def cfB : Option PySem.W.CFound → Option PySem.W.CFound → Bool
  | some (.val a), some (.val b) => decide (a = b)
  | some (.get a b c d), some (.get a' b' c' d') => decide (a = a') && (decide (b = b') && (decide (c = c') && decide (d = d')))
  | _, _ => false
theorem cf_look : ∀ {a b : Option PySem.W.CFound}, cfB a b = true → a = b
  | some (.val a), some (.val b), h => by rw [of_decide_eq_true (show decide (a = b) = true from h)]
  | some (.get a b c d), some (.get a' b' c' d'), h => by
    obtain ⟨h1, h⟩ := Bool.and_eq_true_iff.mp (show (decide (a = a') && (decide (b = b') && (decide (c = c') && decide (d = d')))) = true from h)
    obtain ⟨h2, h⟩ := Bool.and_eq_true_iff.mp h
    obtain ⟨h3, h4⟩ := Bool.and_eq_true_iff.mp h
    rw [of_decide_eq_true h1, of_decide_eq_true h2, of_decide_eq_true h3, of_decide_eq_true h4]
  | none, none, h => by cases h
  | none, some _, h => by cases h
  | some (.val _), none, h => by cases h
  | some (.get _ _ _ _), none, h => by cases h
  | some (.val _), some (.get _ _ _ _), h => by cases h
  | some (.get _ _ _ _), some (.val _), h => by cases h
abbrev Fq := PySem.W.Frag → Bool
abbrev AlQ : Type := Bool × List TxQ
def obsQ (fs : List Fq) (fn : List DefQ) (K : PySem.W.Frag) : AlQ := (fs.all fun f => f K, fn.map fun d => txAt K (d.at_ K))
def valQ (fn : List DefQ) : AlQ := (true, fn.map DefQ.val)
def SaysQ (fs : List Fq) (fn : List DefQ) (K : PySem.W.Frag) : Prop := obsQ fs fn K = valQ fn
def hookQ (n : Nat) (fs : List Fq) (fn : List DefQ) : PySem.W.Hook where
  α := AlQ
  obs := fun s => obsQ fs fn (partQ n s.heap.get?)
  val := fun _ => valQ fn
  says := fun _ h => ∃ K : PySem.W.Frag, K.In h ∧ SaysQ fs fn K
  of := fun _ _ e => ⟨_, He.frG_in, e⟩
  keeps := fun _ _ _ ⟨K, hK, c⟩ k => ⟨K, PySem.W.Frag.In.keeps hK k, c⟩
theorem obQ_eq {n : Nat} {fs : List Fq} {fn : List DefQ} (s : PySem.W.SharedT) : obsQ fs fn (partQ n (HandSHeadRun.getT s)) = (hookQ n fs fn).obs s.abs := by
  have e : HandSHeadRun.getT s = s.abs.heap.get? := funext fun a => HandSHeadRun.getT_eq s a
  rw [e] <;> rfl
section
variable {fs : List Fq} {fn : List DefQ} {K : PySem.W.Frag}
theorem SaysQ.fact (c : SaysQ fs fn K) (i : Nat) {f : Fq} (h : fs[i]? = some f) : f K = true :=
  List.all_eq_true.mp (show (fs.all fun f => f K) = true from congrArg (fun z : AlQ => z.1) c) f (List.mem_of_getElem? h)
theorem SaysQ.text (c : SaysQ fs fn K) (i : Nat) {d : DefQ} (h : fn[i]? = some d) : txAt K (d.at_ K) = d.val := by
  have e : fn.map (fun d => txAt K (d.at_ K)) = fn.map DefQ.val := congrArg (fun z : AlQ => z.2) c
  have e2 : (fn.map fun d => txAt K (d.at_ K))[i]? = (fn.map DefQ.val)[i]? := by rw [e]
  rw [List.getElem?_map, List.getElem?_map, h] at e2
  exact Option.some.inj e2
end
end LT
set_option Elab.async false
set_option linter.all false
set_option maxRecDepth 100000
namespace LT
open PySem PySem.Spec PyProof.Rows L2
end LT
set_option Elab.async false
set_option linter.all false
set_option maxRecDepth 100000
namespace LT
open PySem PySem.Spec PyProof.Rows L2
end LT
set_option Elab.async false
set_option linter.all false
set_option maxRecDepth 100000
set_option maxHeartbeats 4000000
namespace LT
open PySem PySem.Spec PyProof.Rows L2
inductive Quiet {α : Type} : Sem α → Prop
  | pure (a : α) : Quiet (.pure a)
  | unsup (t : String) : Quiet (.unsupported t)
  | at_ (p : Pos) (k : Unit → Sem α) (h : ∀ x, Quiet (k x)) : Quiet (.at p k)
  | alloc (o : Obj) (k : Addr → Sem α) (h : ∀ x, Quiet (k x)) : Quiet (.alloc o k)
  | fresh (k : Tok → Sem α) (h : ∀ x, Quiet (k x)) : Quiet (.fresh k)
theorem Quiet.keep {α : Type} {m : Sem α} (h : Quiet m) (vs : List Value) : m.keep vs = m := by
  induction h with
  | pure a => rfl
  | unsup t => rfl
  | at_ p k h ih => simp only [Sem.keep, ih]
  | alloc o k h ih => simp only [Sem.keep, ih]
  | fresh k h ih => simp only [Sem.keep, ih]
theorem Quiet.bind {α β : Type} {m : Sem α} {f : α → Sem β} (h : Quiet m) (g : ∀ a, Quiet (f a)) : Quiet (m.bind f) := by
  induction h with
  | pure a => exact g a
  | unsup t => exact .unsup t
  | at_ p k h ih => exact .at_ p _ ih
  | alloc o k h ih => exact .alloc o _ ih
  | fresh k h ih => exact .fresh _ ih
end LT
set_option Elab.async false
set_option linter.all false
set_option maxRecDepth 100000
namespace LT
open PySem PySem.Spec PyProof.Rows L2
end LT
set_option Elab.async false
set_option linter.all false
set_option maxRecDepth 100000
namespace LT
open PySem PySem.Spec PyProof.Rows L2
structure DkAt (K : PySem.W.Frag) (w : World) (y : Str) (t : List (Str × Int)) : Prop where
  ex : ∃ a es n, PySem.W.nsIn K mainGlobals y = some (some (.ref a)) ∧ K.lookup a = some ⟨.type "dict", none, .dict es n, #[]⟩ ∧ PySem.W.KeysLit w.params es.toList ∧ (a == sysModules) = false ∧
    ∀ s i, t.lookup s = some i → ∃ tk, PySem.W.nsIn K a s = some (some (.int i tk))
end LT
set_option Elab.async false
set_option linter.all false
set_option maxRecDepth 100000
set_option maxHeartbeats 0
namespace LawR
open PySem PySem.Spec PyProof.Rows L2 LT
def topS (i : Nat) : Stmt := PySem.Challenge.pw_laytwice_k01_errors.main.body.getD i (.Pass ⟨0, 0, 0, 0⟩)
def fq0 : Fq := fun K => decide (PySem.W.nsIn K mainGlobals "LayError" = some (some (.ref (He.ga K "LayError"))))
def fq1 : Fq := fun K => decide (PySem.W.nsIn K mainGlobals "InvalidPiece" = some (some (.ref (He.ga K "InvalidPiece"))))
def fq2 : Fq := fun K => decide (PySem.W.nsIn K mainGlobals "InvalidProgram" = some (some (.ref (He.ga K "InvalidProgram"))))
def fq3 : Fq := fun K => decide (PySem.W.nsIn K mainGlobals "InvalidText" = some (some (.ref (He.ga K "InvalidText"))))
def fq4 : Fq := fun K => decide (PySem.W.nsIn K mainGlobals "InvalidRow" = some (some (.ref (He.ga K "InvalidRow"))))
def fq5 : Fq := fun K => decide (PySem.W.nsIn K mainGlobals "InvalidTool" = some (some (.ref (He.ga K "InvalidTool"))))
def fq6 : Fq := fun K => decide (PySem.W.nsIn K mainGlobals "InvalidGoal" = some (some (.ref (He.ga K "InvalidGoal"))))
def fq7 : Fq := fun K => decide (PySem.W.nsIn K mainGlobals "InvalidCommand" = some (some (.ref (He.ga K "InvalidCommand"))))
def fq8 : Fq := fun K => decide (PySem.W.nsIn K mainGlobals "Refused" = some (some (.ref (He.ga K "Refused"))))
def fq9 : Fq := fun K => decide (PySem.W.nsIn K mainGlobals "NoPiece" = some (some (.ref (He.ga K "NoPiece"))))
def fq10 : Fq := fun K => decide (PySem.W.nsIn K mainGlobals "NoRow" = some (some (.ref (He.ga K "NoRow"))))
def fq11 : Fq := fun K => decide (PySem.W.nsIn K mainGlobals "ValueError" = some none)
def fq12 : Fq := fun K => decide (PySem.W.nsIn K mainGlobals "abs" = some none)
def fq13 : Fq := fun K => decide (PySem.W.nsIn K mainGlobals "enumerate" = some none)
def fq14 : Fq := fun K => decide (PySem.W.nsIn K mainGlobals "int" = some none)
def fq15 : Fq := fun K => decide (PySem.W.nsIn K mainGlobals "isinstance" = some none)
def fq16 : Fq := fun K => decide (PySem.W.nsIn K mainGlobals "len" = some none)
def fq17 : Fq := fun K => decide (PySem.W.nsIn K mainGlobals "max" = some none)
def fq18 : Fq := fun K => decide (PySem.W.nsIn K mainGlobals "min" = some none)
def fq19 : Fq := fun K => decide (PySem.W.nsIn K mainGlobals "range" = some none)
def fq20 : Fq := fun K => decide (PySem.W.nsIn K mainGlobals "repr" = some none)
def fq21 : Fq := fun K => excQ K (He.ga K "InvalidRow")
def fq22 : Fq := fun K => decide (PySem.W.findIn K (.ref (He.ga K "InvalidRow")) "__setattr__" = some (some (.builtin "object.__setattr__")))
def fq23 : Fq := fun K => decide (PySem.W.subIn K (.ref (He.ga K "InvalidRow")) (.type "BaseException") = some true)
def fq24 : Fq := fun K => decide (PySem.W.typeIn K (.ref (He.ga K "InvalidRow")) = some (.type "type"))
def fq25 : Fq := fun K => decide (PySem.W.keepIn K (.ref (He.ga K "InvalidRow")) = true)
def fq26 : Fq := fun K => decide (PySem.W.findIn K (.ref (He.ga K "InvalidRow")) "part" = some none)
def fq27 : Fq := fun K => decide (PySem.W.findIn K (.ref (He.ga K "InvalidRow")) "__init__" = some (some (.ref (He.ma K (He.ga K "InvalidRow") "__init__"))))
def fq28 : Fq := fun K => decide (PySem.W.typeIn K (.ref (He.ma K (He.ga K "InvalidRow") "__init__")) = some (.type "function"))
def fq29 : Fq := fun K => decide ((fdAt K (He.ma K (He.ga K "InvalidRow") "__init__")).defaults = .none)
abbrev st_InvalidRowD_initD : Stmt := inClass (topS 5) 0
def dq0 : DefQ := ⟨fun K => (He.ma K (He.ga K "InvalidRow") "__init__"), "__init__", "InvalidRow.__init__", st_InvalidRowD_initD⟩
def fq30 : Fq := fun K => decide (PySem.W.codeIn K (fdAt K (He.ma K (He.ga K "InvalidRow") "__init__")).code "InvalidRow.__init__" = true)
def fq31 : Fq := fun K => decide (PySem.W.keepIn K (.ref (He.ma K (He.ga K "InvalidRow") "__init__")) = true)
def fq32 : Fq := fun K => excQ K (He.ga K "InvalidText")
def fq33 : Fq := fun K => decide (PySem.W.findIn K (.ref (He.ga K "InvalidText")) "__setattr__" = some (some (.builtin "object.__setattr__")))
def fq34 : Fq := fun K => decide (PySem.W.subIn K (.ref (He.ga K "InvalidText")) (.type "BaseException") = some true)
def fq35 : Fq := fun K => decide (PySem.W.typeIn K (.ref (He.ga K "InvalidText")) = some (.type "type"))
def fq36 : Fq := fun K => decide (PySem.W.keepIn K (.ref (He.ga K "InvalidText")) = true)
def fq37 : Fq := fun K => decide (PySem.W.findIn K (.ref (He.ga K "InvalidText")) "at" = some none)
def fq38 : Fq := fun K => decide (PySem.W.findIn K (.ref (He.ga K "InvalidText")) "__init__" = some (some (.ref (He.ma K (He.ga K "InvalidText") "__init__"))))
def fq39 : Fq := fun K => decide (PySem.W.typeIn K (.ref (He.ma K (He.ga K "InvalidText") "__init__")) = some (.type "function"))
def fq40 : Fq := fun K => decide ((fdAt K (He.ma K (He.ga K "InvalidText") "__init__")).defaults = .none)
abbrev st_InvalidTextD_initD : Stmt := inClass (topS 4) 0
def dq1 : DefQ := ⟨fun K => (He.ma K (He.ga K "InvalidText") "__init__"), "__init__", "InvalidText.__init__", st_InvalidTextD_initD⟩
def fq41 : Fq := fun K => decide (PySem.W.codeIn K (fdAt K (He.ma K (He.ga K "InvalidText") "__init__")).code "InvalidText.__init__" = true)
def fq42 : Fq := fun K => decide (PySem.W.keepIn K (.ref (He.ma K (He.ga K "InvalidText") "__init__")) = true)
def fq43 : Fq := fun K => excQ K (He.ga K "InvalidProgram")
def fq44 : Fq := fun K => decide (PySem.W.findIn K (.ref (He.ga K "InvalidProgram")) "__setattr__" = some (some (.builtin "object.__setattr__")))
def fq45 : Fq := fun K => decide (PySem.W.subIn K (.ref (He.ga K "InvalidProgram")) (.type "BaseException") = some true)
def fq46 : Fq := fun K => decide (PySem.W.typeIn K (.ref (He.ga K "InvalidProgram")) = some (.type "type"))
def fq47 : Fq := fun K => decide (PySem.W.keepIn K (.ref (He.ga K "InvalidProgram")) = true)
def fq48 : Fq := fun K => decide (PySem.W.findIn K (.ref (He.ga K "InvalidProgram")) "at" = some none)
def fq49 : Fq := fun K => decide (PySem.W.findIn K (.ref (He.ga K "InvalidProgram")) "__init__" = some (some (.ref (He.ma K (He.ga K "InvalidProgram") "__init__"))))
def fq50 : Fq := fun K => decide (PySem.W.typeIn K (.ref (He.ma K (He.ga K "InvalidProgram") "__init__")) = some (.type "function"))
def fq51 : Fq := fun K => decide ((fdAt K (He.ma K (He.ga K "InvalidProgram") "__init__")).defaults = .none)
abbrev st_InvalidProgramD_initD : Stmt := inClass (topS 3) 0
def dq2 : DefQ := ⟨fun K => (He.ma K (He.ga K "InvalidProgram") "__init__"), "__init__", "InvalidProgram.__init__", st_InvalidProgramD_initD⟩
def fq52 : Fq := fun K => decide (PySem.W.codeIn K (fdAt K (He.ma K (He.ga K "InvalidProgram") "__init__")).code "InvalidProgram.__init__" = true)
def fq53 : Fq := fun K => decide (PySem.W.keepIn K (.ref (He.ma K (He.ga K "InvalidProgram") "__init__")) = true)
def fq54 : Fq := fun K => excQ K (He.ga K "InvalidPiece")
def fq55 : Fq := fun K => decide (PySem.W.findIn K (.ref (He.ga K "InvalidPiece")) "__setattr__" = some (some (.builtin "object.__setattr__")))
def fq56 : Fq := fun K => decide (PySem.W.subIn K (.ref (He.ga K "InvalidPiece")) (.type "BaseException") = some true)
def fq57 : Fq := fun K => decide (PySem.W.typeIn K (.ref (He.ga K "InvalidPiece")) = some (.type "type"))
def fq58 : Fq := fun K => decide (PySem.W.keepIn K (.ref (He.ga K "InvalidPiece")) = true)
def fq59 : Fq := fun K => decide (PySem.W.findIn K (.ref (He.ga K "InvalidPiece")) "word" = some none)
def fq60 : Fq := fun K => decide (PySem.W.findIn K (.ref (He.ga K "InvalidPiece")) "__init__" = some (some (.ref (He.ma K (He.ga K "InvalidPiece") "__init__"))))
def fq61 : Fq := fun K => decide (PySem.W.typeIn K (.ref (He.ma K (He.ga K "InvalidPiece") "__init__")) = some (.type "function"))
def fq62 : Fq := fun K => decide ((fdAt K (He.ma K (He.ga K "InvalidPiece") "__init__")).defaults = .none)
abbrev st_InvalidPieceD_initD : Stmt := inClass (topS 2) 0
def dq3 : DefQ := ⟨fun K => (He.ma K (He.ga K "InvalidPiece") "__init__"), "__init__", "InvalidPiece.__init__", st_InvalidPieceD_initD⟩
def fq63 : Fq := fun K => decide (PySem.W.codeIn K (fdAt K (He.ma K (He.ga K "InvalidPiece") "__init__")).code "InvalidPiece.__init__" = true)
def fq64 : Fq := fun K => decide (PySem.W.keepIn K (.ref (He.ma K (He.ga K "InvalidPiece") "__init__")) = true)
def fq65 : Fq := fun K => excQ K (He.ga K "NoRow")
def fq66 : Fq := fun K => decide (PySem.W.findIn K (.ref (He.ga K "NoRow")) "__setattr__" = some (some (.builtin "object.__setattr__")))
def fq67 : Fq := fun K => decide (PySem.W.subIn K (.ref (He.ga K "NoRow")) (.type "BaseException") = some true)
def fq68 : Fq := fun K => decide (PySem.W.typeIn K (.ref (He.ga K "NoRow")) = some (.type "type"))
def fq69 : Fq := fun K => decide (PySem.W.keepIn K (.ref (He.ga K "NoRow")) = true)
def fq70 : Fq := fun K => decide (PySem.W.findIn K (.ref (He.ga K "NoRow")) "at" = some none)
def fq71 : Fq := fun K => decide (PySem.W.findIn K (.ref (He.ga K "NoRow")) "__init__" = some (some (.ref (He.ma K (He.ga K "NoRow") "__init__"))))
def fq72 : Fq := fun K => decide (PySem.W.typeIn K (.ref (He.ma K (He.ga K "NoRow") "__init__")) = some (.type "function"))
def fq73 : Fq := fun K => decide ((fdAt K (He.ma K (He.ga K "NoRow") "__init__")).defaults = .none)
abbrev st_NoRowD_initD : Stmt := inClass (topS 11) 0
def dq4 : DefQ := ⟨fun K => (He.ma K (He.ga K "NoRow") "__init__"), "__init__", "NoRow.__init__", st_NoRowD_initD⟩
def fq74 : Fq := fun K => decide (PySem.W.codeIn K (fdAt K (He.ma K (He.ga K "NoRow") "__init__")).code "NoRow.__init__" = true)
def fq75 : Fq := fun K => decide (PySem.W.keepIn K (.ref (He.ma K (He.ga K "NoRow") "__init__")) = true)
def fq76 : Fq := fun K => excQ K (He.ga K "NoPiece")
def fq77 : Fq := fun K => decide (PySem.W.findIn K (.ref (He.ga K "NoPiece")) "__setattr__" = some (some (.builtin "object.__setattr__")))
def fq78 : Fq := fun K => decide (PySem.W.subIn K (.ref (He.ga K "NoPiece")) (.type "BaseException") = some true)
def fq79 : Fq := fun K => decide (PySem.W.typeIn K (.ref (He.ga K "NoPiece")) = some (.type "type"))
def fq80 : Fq := fun K => decide (PySem.W.keepIn K (.ref (He.ga K "NoPiece")) = true)
def fq81 : Fq := fun K => decide (PySem.W.findIn K (.ref (He.ga K "NoPiece")) "at" = some none)
def fq82 : Fq := fun K => decide (PySem.W.findIn K (.ref (He.ga K "NoPiece")) "__init__" = some (some (.ref (He.ma K (He.ga K "NoPiece") "__init__"))))
def fq83 : Fq := fun K => decide (PySem.W.typeIn K (.ref (He.ma K (He.ga K "NoPiece") "__init__")) = some (.type "function"))
def fq84 : Fq := fun K => decide ((fdAt K (He.ma K (He.ga K "NoPiece") "__init__")).defaults = .none)
abbrev st_NoPieceD_initD : Stmt := inClass (topS 10) 0
def dq5 : DefQ := ⟨fun K => (He.ma K (He.ga K "NoPiece") "__init__"), "__init__", "NoPiece.__init__", st_NoPieceD_initD⟩
def fq85 : Fq := fun K => decide (PySem.W.codeIn K (fdAt K (He.ma K (He.ga K "NoPiece") "__init__")).code "NoPiece.__init__" = true)
def fq86 : Fq := fun K => decide (PySem.W.keepIn K (.ref (He.ma K (He.ga K "NoPiece") "__init__")) = true)
def fq87 : Fq := fun K => excQ K (He.ga K "Refused")
def fq88 : Fq := fun K => decide (PySem.W.findIn K (.ref (He.ga K "Refused")) "__setattr__" = some (some (.builtin "object.__setattr__")))
def fq89 : Fq := fun K => decide (PySem.W.subIn K (.ref (He.ga K "Refused")) (.type "BaseException") = some true)
def fq90 : Fq := fun K => decide (PySem.W.typeIn K (.ref (He.ga K "Refused")) = some (.type "type"))
def fq91 : Fq := fun K => decide (PySem.W.keepIn K (.ref (He.ga K "Refused")) = true)
def fq92 : Fq := fun K => decide (PySem.W.findIn K (.ref (He.ga K "Refused")) "word" = some none)
def fq93 : Fq := fun K => decide (PySem.W.findIn K (.ref (He.ga K "Refused")) "__init__" = some (some (.ref (He.ma K (He.ga K "Refused") "__init__"))))
def fq94 : Fq := fun K => decide (PySem.W.typeIn K (.ref (He.ma K (He.ga K "Refused") "__init__")) = some (.type "function"))
def fq95 : Fq := fun K => decide ((fdAt K (He.ma K (He.ga K "Refused") "__init__")).defaults = .none)
abbrev st_RefusedD_initD : Stmt := inClass (topS 9) 0
def dq6 : DefQ := ⟨fun K => (He.ma K (He.ga K "Refused") "__init__"), "__init__", "Refused.__init__", st_RefusedD_initD⟩
def fq96 : Fq := fun K => decide (PySem.W.codeIn K (fdAt K (He.ma K (He.ga K "Refused") "__init__")).code "Refused.__init__" = true)
def fq97 : Fq := fun K => decide (PySem.W.keepIn K (.ref (He.ma K (He.ga K "Refused") "__init__")) = true)
def fq98 : Fq := fun K => excQ K (He.ga K "InvalidTool")
def fq99 : Fq := fun K => decide (PySem.W.findIn K (.ref (He.ga K "InvalidTool")) "__setattr__" = some (some (.builtin "object.__setattr__")))
def fq100 : Fq := fun K => decide (PySem.W.subIn K (.ref (He.ga K "InvalidTool")) (.type "BaseException") = some true)
def fq101 : Fq := fun K => decide (PySem.W.typeIn K (.ref (He.ga K "InvalidTool")) = some (.type "type"))
def fq102 : Fq := fun K => decide (PySem.W.keepIn K (.ref (He.ga K "InvalidTool")) = true)
def fq103 : Fq := fun K => decide (PySem.W.findIn K (.ref (He.ga K "InvalidTool")) "at" = some none)
def fq104 : Fq := fun K => decide (PySem.W.findIn K (.ref (He.ga K "InvalidTool")) "__init__" = some (some (.ref (He.ma K (He.ga K "InvalidTool") "__init__"))))
def fq105 : Fq := fun K => decide (PySem.W.typeIn K (.ref (He.ma K (He.ga K "InvalidTool") "__init__")) = some (.type "function"))
def fq106 : Fq := fun K => decide ((fdAt K (He.ma K (He.ga K "InvalidTool") "__init__")).defaults = .none)
abbrev st_InvalidToolD_initD : Stmt := inClass (topS 6) 0
def dq7 : DefQ := ⟨fun K => (He.ma K (He.ga K "InvalidTool") "__init__"), "__init__", "InvalidTool.__init__", st_InvalidToolD_initD⟩
def fq107 : Fq := fun K => decide (PySem.W.codeIn K (fdAt K (He.ma K (He.ga K "InvalidTool") "__init__")).code "InvalidTool.__init__" = true)
def fq108 : Fq := fun K => decide (PySem.W.keepIn K (.ref (He.ma K (He.ga K "InvalidTool") "__init__")) = true)
def fq109 : Fq := fun K => excQ K (He.ga K "InvalidCommand")
def fq110 : Fq := fun K => decide (PySem.W.findIn K (.ref (He.ga K "InvalidCommand")) "__setattr__" = some (some (.builtin "object.__setattr__")))
def fq111 : Fq := fun K => decide (PySem.W.subIn K (.ref (He.ga K "InvalidCommand")) (.type "BaseException") = some true)
def fq112 : Fq := fun K => decide (PySem.W.typeIn K (.ref (He.ga K "InvalidCommand")) = some (.type "type"))
def fq113 : Fq := fun K => decide (PySem.W.keepIn K (.ref (He.ga K "InvalidCommand")) = true)
def fq114 : Fq := fun K => decide (PySem.W.findIn K (.ref (He.ga K "InvalidCommand")) "__init__" = some (some (.ref (He.ma K (He.ga K "InvalidCommand") "__init__"))))
def fq115 : Fq := fun K => decide (PySem.W.typeIn K (.ref (He.ma K (He.ga K "InvalidCommand") "__init__")) = some (.type "function"))
def fq116 : Fq := fun K => decide ((fdAt K (He.ma K (He.ga K "InvalidCommand") "__init__")).defaults = .none)
abbrev st_InvalidCommandD_initD : Stmt := inClass (topS 8) 0
def dq8 : DefQ := ⟨fun K => (He.ma K (He.ga K "InvalidCommand") "__init__"), "__init__", "InvalidCommand.__init__", st_InvalidCommandD_initD⟩
def fq117 : Fq := fun K => decide (PySem.W.codeIn K (fdAt K (He.ma K (He.ga K "InvalidCommand") "__init__")).code "InvalidCommand.__init__" = true)
def fq118 : Fq := fun K => decide (PySem.W.keepIn K (.ref (He.ma K (He.ga K "InvalidCommand") "__init__")) = true)
def fq119 : Fq := fun K => excQ K (He.ga K "InvalidGoal")
def fq120 : Fq := fun K => decide (PySem.W.findIn K (.ref (He.ga K "InvalidGoal")) "__setattr__" = some (some (.builtin "object.__setattr__")))
def fq121 : Fq := fun K => decide (PySem.W.subIn K (.ref (He.ga K "InvalidGoal")) (.type "BaseException") = some true)
def fq122 : Fq := fun K => decide (PySem.W.typeIn K (.ref (He.ga K "InvalidGoal")) = some (.type "type"))
def fq123 : Fq := fun K => decide (PySem.W.keepIn K (.ref (He.ga K "InvalidGoal")) = true)
def fq124 : Fq := fun K => decide (PySem.W.findIn K (.ref (He.ga K "InvalidGoal")) "__init__" = some (some (.ref (He.ma K (He.ga K "InvalidGoal") "__init__"))))
def fq125 : Fq := fun K => decide (PySem.W.typeIn K (.ref (He.ma K (He.ga K "InvalidGoal") "__init__")) = some (.type "function"))
def fq126 : Fq := fun K => decide ((fdAt K (He.ma K (He.ga K "InvalidGoal") "__init__")).defaults = .none)
abbrev st_InvalidGoalD_initD : Stmt := inClass (topS 7) 0
def dq9 : DefQ := ⟨fun K => (He.ma K (He.ga K "InvalidGoal") "__init__"), "__init__", "InvalidGoal.__init__", st_InvalidGoalD_initD⟩
def fq127 : Fq := fun K => decide (PySem.W.codeIn K (fdAt K (He.ma K (He.ga K "InvalidGoal") "__init__")).code "InvalidGoal.__init__" = true)
def fq128 : Fq := fun K => decide (PySem.W.keepIn K (.ref (He.ma K (He.ga K "InvalidGoal") "__init__")) = true)
def fq129 : Fq := fun K => decide (PySem.W.specialIn K (.ref (He.ga K "LayError")) "__getattribute__" = some (some (.builtin "type.__getattribute__")))
def fq130 : Fq := fun K => decide (PySem.W.readsIn K (He.ga K "LayError") (.type "type") = true)
def fq131 : Fq := fun K => decide (PySem.W.typeIn K (.ref (He.ga K "LayError")) = some (.type "type"))
def fq132 : Fq := fun K => cfB (PySem.W.findCls K (.ref (He.ga K "LayError")) (.type "type") "__init__") (some (.val (.builtin "ValueError.__init__")))
def fq133 : Fq := fun K => decide (PySem.W.specialIn K (.builtin "object.__class__") "__get__" = some (some (.builtin "getset_descriptor.__get__")))
def fq134 : Fq := fun K => decide (PySem.W.takesIn K (.builtin "object.__class__") = some true)
def fq135 : Fq := fun K => decide (PySem.W.findIn K (.ref (He.ga K "InvalidPiece")) "__getattribute__" = some (some (.builtin "BaseException.__getattribute__")))
def fq136 : Fq := fun K => decide (PySem.W.findIn K (.ref (He.ga K "InvalidPiece")) "__getattr__" = some none)
def fq137 : Fq := fun K => decide (PySem.W.hasDictIn K (He.ga K "InvalidPiece") = true)
def fq138 : Fq := fun K => decide (PySem.W.findIn K (.ref (He.ga K "InvalidPiece")) "__class__" = some (some (.builtin "object.__class__")))
def fq139 : Fq := fun K => decide (PySem.W.mroIn K (He.ga K "InvalidPiece") (.type "object") = some true)
def fq140 : Fq := fun K => decide (PySem.W.findIn K (.ref (He.ga K "InvalidProgram")) "__getattribute__" = some (some (.builtin "BaseException.__getattribute__")))
def fq141 : Fq := fun K => decide (PySem.W.findIn K (.ref (He.ga K "InvalidProgram")) "__getattr__" = some none)
def fq142 : Fq := fun K => decide (PySem.W.hasDictIn K (He.ga K "InvalidProgram") = true)
def fq143 : Fq := fun K => decide (PySem.W.findIn K (.ref (He.ga K "InvalidProgram")) "__class__" = some (some (.builtin "object.__class__")))
def fq144 : Fq := fun K => decide (PySem.W.mroIn K (He.ga K "InvalidProgram") (.type "object") = some true)
def fq145 : Fq := fun K => decide (PySem.W.findIn K (.ref (He.ga K "InvalidText")) "__getattribute__" = some (some (.builtin "BaseException.__getattribute__")))
def fq146 : Fq := fun K => decide (PySem.W.findIn K (.ref (He.ga K "InvalidText")) "__getattr__" = some none)
def fq147 : Fq := fun K => decide (PySem.W.hasDictIn K (He.ga K "InvalidText") = true)
def fq148 : Fq := fun K => decide (PySem.W.findIn K (.ref (He.ga K "InvalidText")) "__class__" = some (some (.builtin "object.__class__")))
def fq149 : Fq := fun K => decide (PySem.W.mroIn K (He.ga K "InvalidText") (.type "object") = some true)
def fq150 : Fq := fun K => decide (PySem.W.findIn K (.ref (He.ga K "InvalidRow")) "__getattribute__" = some (some (.builtin "BaseException.__getattribute__")))
def fq151 : Fq := fun K => decide (PySem.W.findIn K (.ref (He.ga K "InvalidRow")) "__getattr__" = some none)
def fq152 : Fq := fun K => decide (PySem.W.hasDictIn K (He.ga K "InvalidRow") = true)
def fq153 : Fq := fun K => decide (PySem.W.findIn K (.ref (He.ga K "InvalidRow")) "__class__" = some (some (.builtin "object.__class__")))
def fq154 : Fq := fun K => decide (PySem.W.mroIn K (He.ga K "InvalidRow") (.type "object") = some true)
def fq155 : Fq := fun K => decide (PySem.W.findIn K (.ref (He.ga K "InvalidTool")) "__getattribute__" = some (some (.builtin "BaseException.__getattribute__")))
def fq156 : Fq := fun K => decide (PySem.W.findIn K (.ref (He.ga K "InvalidTool")) "__getattr__" = some none)
def fq157 : Fq := fun K => decide (PySem.W.hasDictIn K (He.ga K "InvalidTool") = true)
def fq158 : Fq := fun K => decide (PySem.W.findIn K (.ref (He.ga K "InvalidTool")) "__class__" = some (some (.builtin "object.__class__")))
def fq159 : Fq := fun K => decide (PySem.W.mroIn K (He.ga K "InvalidTool") (.type "object") = some true)
def fq160 : Fq := fun K => decide (PySem.W.findIn K (.ref (He.ga K "InvalidGoal")) "__getattribute__" = some (some (.builtin "BaseException.__getattribute__")))
def fq161 : Fq := fun K => decide (PySem.W.findIn K (.ref (He.ga K "InvalidGoal")) "__getattr__" = some none)
def fq162 : Fq := fun K => decide (PySem.W.hasDictIn K (He.ga K "InvalidGoal") = true)
def fq163 : Fq := fun K => decide (PySem.W.findIn K (.ref (He.ga K "InvalidGoal")) "__class__" = some (some (.builtin "object.__class__")))
def fq164 : Fq := fun K => decide (PySem.W.mroIn K (He.ga K "InvalidGoal") (.type "object") = some true)
def fq165 : Fq := fun K => decide (PySem.W.findIn K (.ref (He.ga K "InvalidCommand")) "__getattribute__" = some (some (.builtin "BaseException.__getattribute__")))
def fq166 : Fq := fun K => decide (PySem.W.findIn K (.ref (He.ga K "InvalidCommand")) "__getattr__" = some none)
def fq167 : Fq := fun K => decide (PySem.W.hasDictIn K (He.ga K "InvalidCommand") = true)
def fq168 : Fq := fun K => decide (PySem.W.findIn K (.ref (He.ga K "InvalidCommand")) "__class__" = some (some (.builtin "object.__class__")))
def fq169 : Fq := fun K => decide (PySem.W.mroIn K (He.ga K "InvalidCommand") (.type "object") = some true)
def fq170 : Fq := fun K => decide (PySem.W.findIn K (.ref (He.ga K "Refused")) "__getattribute__" = some (some (.builtin "BaseException.__getattribute__")))
def fq171 : Fq := fun K => decide (PySem.W.findIn K (.ref (He.ga K "Refused")) "__getattr__" = some none)
def fq172 : Fq := fun K => decide (PySem.W.hasDictIn K (He.ga K "Refused") = true)
def fq173 : Fq := fun K => decide (PySem.W.findIn K (.ref (He.ga K "Refused")) "__class__" = some (some (.builtin "object.__class__")))
def fq174 : Fq := fun K => decide (PySem.W.mroIn K (He.ga K "Refused") (.type "object") = some true)
def fq175 : Fq := fun K => decide (PySem.W.findIn K (.ref (He.ga K "NoPiece")) "__getattribute__" = some (some (.builtin "BaseException.__getattribute__")))
def fq176 : Fq := fun K => decide (PySem.W.findIn K (.ref (He.ga K "NoPiece")) "__getattr__" = some none)
def fq177 : Fq := fun K => decide (PySem.W.hasDictIn K (He.ga K "NoPiece") = true)
def fq178 : Fq := fun K => decide (PySem.W.findIn K (.ref (He.ga K "NoPiece")) "__class__" = some (some (.builtin "object.__class__")))
def fq179 : Fq := fun K => decide (PySem.W.mroIn K (He.ga K "NoPiece") (.type "object") = some true)
def fq180 : Fq := fun K => decide (PySem.W.findIn K (.ref (He.ga K "NoRow")) "__getattribute__" = some (some (.builtin "BaseException.__getattribute__")))
def fq181 : Fq := fun K => decide (PySem.W.findIn K (.ref (He.ga K "NoRow")) "__getattr__" = some none)
def fq182 : Fq := fun K => decide (PySem.W.hasDictIn K (He.ga K "NoRow") = true)
def fq183 : Fq := fun K => decide (PySem.W.findIn K (.ref (He.ga K "NoRow")) "__class__" = some (some (.builtin "object.__class__")))
def fq184 : Fq := fun K => decide (PySem.W.mroIn K (He.ga K "NoRow") (.type "object") = some true)
def fq185 : Fq := fun K => decide (PySem.W.kitOne K (.ref (He.ga K "InvalidPiece")) (.ref (He.ga K "InvalidText")) = some false)
def fq186 : Fq := fun K => decide (PySem.W.kitOne K (.ref (He.ga K "InvalidProgram")) (.ref (He.ga K "InvalidText")) = some false)
def fq187 : Fq := fun K => decide (PySem.W.kitOne K (.ref (He.ga K "InvalidText")) (.ref (He.ga K "InvalidText")) = some true)
def fq188 : Fq := fun K => decide (PySem.W.kitOne K (.ref (He.ga K "InvalidRow")) (.ref (He.ga K "InvalidText")) = some false)
def fq189 : Fq := fun K => decide (PySem.W.kitOne K (.ref (He.ga K "InvalidTool")) (.ref (He.ga K "InvalidText")) = some false)
def fq190 : Fq := fun K => decide (PySem.W.kitOne K (.ref (He.ga K "InvalidGoal")) (.ref (He.ga K "InvalidText")) = some false)
def fq191 : Fq := fun K => decide (PySem.W.kitOne K (.ref (He.ga K "InvalidCommand")) (.ref (He.ga K "InvalidText")) = some false)
def fq192 : Fq := fun K => decide (PySem.W.kitOne K (.ref (He.ga K "Refused")) (.ref (He.ga K "InvalidText")) = some false)
def fq193 : Fq := fun K => decide (PySem.W.kitOne K (.ref (He.ga K "NoPiece")) (.ref (He.ga K "InvalidText")) = some false)
def fq194 : Fq := fun K => decide (PySem.W.kitOne K (.ref (He.ga K "NoRow")) (.ref (He.ga K "InvalidText")) = some false)
def fq195 : Fq := fun K => decide (PySem.W.kitOne K (.ref (He.ga K "InvalidPiece")) (.ref (He.ga K "InvalidProgram")) = some false)
def fq196 : Fq := fun K => decide (PySem.W.kitOne K (.ref (He.ga K "InvalidProgram")) (.ref (He.ga K "InvalidProgram")) = some true)
def fq197 : Fq := fun K => decide (PySem.W.kitOne K (.ref (He.ga K "InvalidText")) (.ref (He.ga K "InvalidProgram")) = some false)
def fq198 : Fq := fun K => decide (PySem.W.kitOne K (.ref (He.ga K "InvalidRow")) (.ref (He.ga K "InvalidProgram")) = some false)
def fq199 : Fq := fun K => decide (PySem.W.kitOne K (.ref (He.ga K "InvalidTool")) (.ref (He.ga K "InvalidProgram")) = some false)
def fq200 : Fq := fun K => decide (PySem.W.kitOne K (.ref (He.ga K "InvalidGoal")) (.ref (He.ga K "InvalidProgram")) = some false)
def fq201 : Fq := fun K => decide (PySem.W.kitOne K (.ref (He.ga K "InvalidCommand")) (.ref (He.ga K "InvalidProgram")) = some false)
def fq202 : Fq := fun K => decide (PySem.W.kitOne K (.ref (He.ga K "Refused")) (.ref (He.ga K "InvalidProgram")) = some false)
def fq203 : Fq := fun K => decide (PySem.W.kitOne K (.ref (He.ga K "NoPiece")) (.ref (He.ga K "InvalidProgram")) = some false)
def fq204 : Fq := fun K => decide (PySem.W.kitOne K (.ref (He.ga K "NoRow")) (.ref (He.ga K "InvalidProgram")) = some false)
def fq205 : Fq := fun K => decide (PySem.W.kitOne K (.ref (He.ga K "InvalidPiece")) (.ref (He.ga K "InvalidPiece")) = some true)
def fq206 : Fq := fun K => decide (PySem.W.kitOne K (.ref (He.ga K "InvalidProgram")) (.ref (He.ga K "InvalidPiece")) = some false)
def fq207 : Fq := fun K => decide (PySem.W.kitOne K (.ref (He.ga K "InvalidText")) (.ref (He.ga K "InvalidPiece")) = some false)
def fq208 : Fq := fun K => decide (PySem.W.kitOne K (.ref (He.ga K "InvalidRow")) (.ref (He.ga K "InvalidPiece")) = some false)
def fq209 : Fq := fun K => decide (PySem.W.kitOne K (.ref (He.ga K "InvalidTool")) (.ref (He.ga K "InvalidPiece")) = some false)
def fq210 : Fq := fun K => decide (PySem.W.kitOne K (.ref (He.ga K "InvalidGoal")) (.ref (He.ga K "InvalidPiece")) = some false)
def fq211 : Fq := fun K => decide (PySem.W.kitOne K (.ref (He.ga K "InvalidCommand")) (.ref (He.ga K "InvalidPiece")) = some false)
def fq212 : Fq := fun K => decide (PySem.W.kitOne K (.ref (He.ga K "Refused")) (.ref (He.ga K "InvalidPiece")) = some false)
def fq213 : Fq := fun K => decide (PySem.W.kitOne K (.ref (He.ga K "NoPiece")) (.ref (He.ga K "InvalidPiece")) = some false)
def fq214 : Fq := fun K => decide (PySem.W.kitOne K (.ref (He.ga K "NoRow")) (.ref (He.ga K "InvalidPiece")) = some false)
def fq215 : Fq := fun K => decide (PySem.W.kitOne K (.ref (He.ga K "InvalidPiece")) (.ref (He.ga K "Refused")) = some false)
def fq216 : Fq := fun K => decide (PySem.W.kitOne K (.ref (He.ga K "InvalidProgram")) (.ref (He.ga K "Refused")) = some false)
def fq217 : Fq := fun K => decide (PySem.W.kitOne K (.ref (He.ga K "InvalidText")) (.ref (He.ga K "Refused")) = some false)
def fq218 : Fq := fun K => decide (PySem.W.kitOne K (.ref (He.ga K "InvalidRow")) (.ref (He.ga K "Refused")) = some false)
def fq219 : Fq := fun K => decide (PySem.W.kitOne K (.ref (He.ga K "InvalidTool")) (.ref (He.ga K "Refused")) = some false)
def fq220 : Fq := fun K => decide (PySem.W.kitOne K (.ref (He.ga K "InvalidGoal")) (.ref (He.ga K "Refused")) = some false)
def fq221 : Fq := fun K => decide (PySem.W.kitOne K (.ref (He.ga K "InvalidCommand")) (.ref (He.ga K "Refused")) = some false)
def fq222 : Fq := fun K => decide (PySem.W.kitOne K (.ref (He.ga K "Refused")) (.ref (He.ga K "Refused")) = some true)
def fq223 : Fq := fun K => decide (PySem.W.kitOne K (.ref (He.ga K "NoPiece")) (.ref (He.ga K "Refused")) = some false)
def fq224 : Fq := fun K => decide (PySem.W.kitOne K (.ref (He.ga K "NoRow")) (.ref (He.ga K "Refused")) = some false)
def fq225 : Fq := fun K => decide (PySem.W.kitOne K (.ref (He.ga K "InvalidPiece")) (.ref (He.ga K "InvalidTool")) = some false)
def fq226 : Fq := fun K => decide (PySem.W.kitOne K (.ref (He.ga K "InvalidProgram")) (.ref (He.ga K "InvalidTool")) = some false)
def fq227 : Fq := fun K => decide (PySem.W.kitOne K (.ref (He.ga K "InvalidText")) (.ref (He.ga K "InvalidTool")) = some false)
def fq228 : Fq := fun K => decide (PySem.W.kitOne K (.ref (He.ga K "InvalidRow")) (.ref (He.ga K "InvalidTool")) = some false)
def fq229 : Fq := fun K => decide (PySem.W.kitOne K (.ref (He.ga K "InvalidTool")) (.ref (He.ga K "InvalidTool")) = some true)
def fq230 : Fq := fun K => decide (PySem.W.kitOne K (.ref (He.ga K "InvalidGoal")) (.ref (He.ga K "InvalidTool")) = some false)
def fq231 : Fq := fun K => decide (PySem.W.kitOne K (.ref (He.ga K "InvalidCommand")) (.ref (He.ga K "InvalidTool")) = some false)
def fq232 : Fq := fun K => decide (PySem.W.kitOne K (.ref (He.ga K "Refused")) (.ref (He.ga K "InvalidTool")) = some false)
def fq233 : Fq := fun K => decide (PySem.W.kitOne K (.ref (He.ga K "NoPiece")) (.ref (He.ga K "InvalidTool")) = some false)
def fq234 : Fq := fun K => decide (PySem.W.kitOne K (.ref (He.ga K "NoRow")) (.ref (He.ga K "InvalidTool")) = some false)
def fq235 : Fq := fun K => decide (PySem.W.kitOne K (.ref (He.ga K "InvalidPiece")) (.ref (He.ga K "InvalidRow")) = some false)
def fq236 : Fq := fun K => decide (PySem.W.kitOne K (.ref (He.ga K "InvalidProgram")) (.ref (He.ga K "InvalidRow")) = some false)
def fq237 : Fq := fun K => decide (PySem.W.kitOne K (.ref (He.ga K "InvalidText")) (.ref (He.ga K "InvalidRow")) = some false)
def fq238 : Fq := fun K => decide (PySem.W.kitOne K (.ref (He.ga K "InvalidRow")) (.ref (He.ga K "InvalidRow")) = some true)
def fq239 : Fq := fun K => decide (PySem.W.kitOne K (.ref (He.ga K "InvalidTool")) (.ref (He.ga K "InvalidRow")) = some false)
def fq240 : Fq := fun K => decide (PySem.W.kitOne K (.ref (He.ga K "InvalidGoal")) (.ref (He.ga K "InvalidRow")) = some false)
def fq241 : Fq := fun K => decide (PySem.W.kitOne K (.ref (He.ga K "InvalidCommand")) (.ref (He.ga K "InvalidRow")) = some false)
def fq242 : Fq := fun K => decide (PySem.W.kitOne K (.ref (He.ga K "Refused")) (.ref (He.ga K "InvalidRow")) = some false)
def fq243 : Fq := fun K => decide (PySem.W.kitOne K (.ref (He.ga K "NoPiece")) (.ref (He.ga K "InvalidRow")) = some false)
def fq244 : Fq := fun K => decide (PySem.W.kitOne K (.ref (He.ga K "NoRow")) (.ref (He.ga K "InvalidRow")) = some false)
def fq245 : Fq := fun K => decide (PySem.W.kitOne K (.ref (He.ga K "InvalidPiece")) (.ref (He.ga K "InvalidGoal")) = some false)
def fq246 : Fq := fun K => decide (PySem.W.kitOne K (.ref (He.ga K "InvalidProgram")) (.ref (He.ga K "InvalidGoal")) = some false)
def fq247 : Fq := fun K => decide (PySem.W.kitOne K (.ref (He.ga K "InvalidText")) (.ref (He.ga K "InvalidGoal")) = some false)
def fq248 : Fq := fun K => decide (PySem.W.kitOne K (.ref (He.ga K "InvalidRow")) (.ref (He.ga K "InvalidGoal")) = some false)
def fq249 : Fq := fun K => decide (PySem.W.kitOne K (.ref (He.ga K "InvalidTool")) (.ref (He.ga K "InvalidGoal")) = some false)
def fq250 : Fq := fun K => decide (PySem.W.kitOne K (.ref (He.ga K "InvalidGoal")) (.ref (He.ga K "InvalidGoal")) = some true)
def fq251 : Fq := fun K => decide (PySem.W.kitOne K (.ref (He.ga K "InvalidCommand")) (.ref (He.ga K "InvalidGoal")) = some false)
def fq252 : Fq := fun K => decide (PySem.W.kitOne K (.ref (He.ga K "Refused")) (.ref (He.ga K "InvalidGoal")) = some false)
def fq253 : Fq := fun K => decide (PySem.W.kitOne K (.ref (He.ga K "NoPiece")) (.ref (He.ga K "InvalidGoal")) = some false)
def fq254 : Fq := fun K => decide (PySem.W.kitOne K (.ref (He.ga K "NoRow")) (.ref (He.ga K "InvalidGoal")) = some false)
def fq255 : Fq := fun K => decide (PySem.W.kitOne K (.ref (He.ga K "InvalidPiece")) (.ref (He.ga K "NoRow")) = some false)
def fq256 : Fq := fun K => decide (PySem.W.kitOne K (.ref (He.ga K "InvalidProgram")) (.ref (He.ga K "NoRow")) = some false)
def fq257 : Fq := fun K => decide (PySem.W.kitOne K (.ref (He.ga K "InvalidText")) (.ref (He.ga K "NoRow")) = some false)
def fq258 : Fq := fun K => decide (PySem.W.kitOne K (.ref (He.ga K "InvalidRow")) (.ref (He.ga K "NoRow")) = some false)
def fq259 : Fq := fun K => decide (PySem.W.kitOne K (.ref (He.ga K "InvalidTool")) (.ref (He.ga K "NoRow")) = some false)
def fq260 : Fq := fun K => decide (PySem.W.kitOne K (.ref (He.ga K "InvalidGoal")) (.ref (He.ga K "NoRow")) = some false)
def fq261 : Fq := fun K => decide (PySem.W.kitOne K (.ref (He.ga K "InvalidCommand")) (.ref (He.ga K "NoRow")) = some false)
def fq262 : Fq := fun K => decide (PySem.W.kitOne K (.ref (He.ga K "Refused")) (.ref (He.ga K "NoRow")) = some false)
def fq263 : Fq := fun K => decide (PySem.W.kitOne K (.ref (He.ga K "NoPiece")) (.ref (He.ga K "NoRow")) = some false)
def fq264 : Fq := fun K => decide (PySem.W.kitOne K (.ref (He.ga K "NoRow")) (.ref (He.ga K "NoRow")) = some true)
def fq265 : Fq := fun K => decide (PySem.W.kitOne K (.ref (He.ga K "InvalidPiece")) (.ref (He.ga K "NoPiece")) = some false)
def fq266 : Fq := fun K => decide (PySem.W.kitOne K (.ref (He.ga K "InvalidProgram")) (.ref (He.ga K "NoPiece")) = some false)
def fq267 : Fq := fun K => decide (PySem.W.kitOne K (.ref (He.ga K "InvalidText")) (.ref (He.ga K "NoPiece")) = some false)
def fq268 : Fq := fun K => decide (PySem.W.kitOne K (.ref (He.ga K "InvalidRow")) (.ref (He.ga K "NoPiece")) = some false)
def fq269 : Fq := fun K => decide (PySem.W.kitOne K (.ref (He.ga K "InvalidTool")) (.ref (He.ga K "NoPiece")) = some false)
def fq270 : Fq := fun K => decide (PySem.W.kitOne K (.ref (He.ga K "InvalidGoal")) (.ref (He.ga K "NoPiece")) = some false)
def fq271 : Fq := fun K => decide (PySem.W.kitOne K (.ref (He.ga K "InvalidCommand")) (.ref (He.ga K "NoPiece")) = some false)
def fq272 : Fq := fun K => decide (PySem.W.kitOne K (.ref (He.ga K "Refused")) (.ref (He.ga K "NoPiece")) = some false)
def fq273 : Fq := fun K => decide (PySem.W.kitOne K (.ref (He.ga K "NoPiece")) (.ref (He.ga K "NoPiece")) = some true)
def fq274 : Fq := fun K => decide (PySem.W.kitOne K (.ref (He.ga K "NoRow")) (.ref (He.ga K "NoPiece")) = some false)
def fq275 : Fq := fun K => decide (PySem.W.kitOne K (.ref (He.ga K "InvalidPiece")) (.ref (He.ga K "InvalidCommand")) = some false)
def fq276 : Fq := fun K => decide (PySem.W.kitOne K (.ref (He.ga K "InvalidProgram")) (.ref (He.ga K "InvalidCommand")) = some false)
def fq277 : Fq := fun K => decide (PySem.W.kitOne K (.ref (He.ga K "InvalidText")) (.ref (He.ga K "InvalidCommand")) = some false)
def fq278 : Fq := fun K => decide (PySem.W.kitOne K (.ref (He.ga K "InvalidRow")) (.ref (He.ga K "InvalidCommand")) = some false)
def fq279 : Fq := fun K => decide (PySem.W.kitOne K (.ref (He.ga K "InvalidTool")) (.ref (He.ga K "InvalidCommand")) = some false)
def fq280 : Fq := fun K => decide (PySem.W.kitOne K (.ref (He.ga K "InvalidGoal")) (.ref (He.ga K "InvalidCommand")) = some false)
def fq281 : Fq := fun K => decide (PySem.W.kitOne K (.ref (He.ga K "InvalidCommand")) (.ref (He.ga K "InvalidCommand")) = some true)
def fq282 : Fq := fun K => decide (PySem.W.kitOne K (.ref (He.ga K "Refused")) (.ref (He.ga K "InvalidCommand")) = some false)
def fq283 : Fq := fun K => decide (PySem.W.kitOne K (.ref (He.ga K "NoPiece")) (.ref (He.ga K "InvalidCommand")) = some false)
def fq284 : Fq := fun K => decide (PySem.W.kitOne K (.ref (He.ga K "NoRow")) (.ref (He.ga K "InvalidCommand")) = some false)
def fq285 : Fq := fun K => decide (PySem.W.kitOne K (.ref (He.ga K "InvalidPiece")) (.ref (He.ga K "LayError")) = some true)
def fq286 : Fq := fun K => decide (PySem.W.kitOne K (.ref (He.ga K "InvalidProgram")) (.ref (He.ga K "LayError")) = some true)
def fq287 : Fq := fun K => decide (PySem.W.kitOne K (.ref (He.ga K "InvalidText")) (.ref (He.ga K "LayError")) = some true)
def fq288 : Fq := fun K => decide (PySem.W.kitOne K (.ref (He.ga K "InvalidRow")) (.ref (He.ga K "LayError")) = some true)
def fq289 : Fq := fun K => decide (PySem.W.kitOne K (.ref (He.ga K "InvalidTool")) (.ref (He.ga K "LayError")) = some true)
def fq290 : Fq := fun K => decide (PySem.W.kitOne K (.ref (He.ga K "InvalidGoal")) (.ref (He.ga K "LayError")) = some true)
def fq291 : Fq := fun K => decide (PySem.W.kitOne K (.ref (He.ga K "InvalidCommand")) (.ref (He.ga K "LayError")) = some true)
def fq292 : Fq := fun K => decide (PySem.W.kitOne K (.ref (He.ga K "Refused")) (.ref (He.ga K "LayError")) = some true)
def fq293 : Fq := fun K => decide (PySem.W.kitOne K (.ref (He.ga K "NoPiece")) (.ref (He.ga K "LayError")) = some true)
def fq294 : Fq := fun K => decide (PySem.W.kitOne K (.ref (He.ga K "NoRow")) (.ref (He.ga K "LayError")) = some true)
def fq295 : Fq := fun K => decide (PySem.W.kitOne K (.ref (He.ga K "InvalidPiece")) (.type "ValueError") = some true)
def fq296 : Fq := fun K => decide (PySem.W.kitOne K (.ref (He.ga K "InvalidProgram")) (.type "ValueError") = some true)
def fq297 : Fq := fun K => decide (PySem.W.kitOne K (.ref (He.ga K "InvalidText")) (.type "ValueError") = some true)
def fq298 : Fq := fun K => decide (PySem.W.kitOne K (.ref (He.ga K "InvalidRow")) (.type "ValueError") = some true)
def fq299 : Fq := fun K => decide (PySem.W.kitOne K (.ref (He.ga K "InvalidTool")) (.type "ValueError") = some true)
def fq300 : Fq := fun K => decide (PySem.W.kitOne K (.ref (He.ga K "InvalidGoal")) (.type "ValueError") = some true)
def fq301 : Fq := fun K => decide (PySem.W.kitOne K (.ref (He.ga K "InvalidCommand")) (.type "ValueError") = some true)
def fq302 : Fq := fun K => decide (PySem.W.kitOne K (.ref (He.ga K "Refused")) (.type "ValueError") = some true)
def fq303 : Fq := fun K => decide (PySem.W.kitOne K (.ref (He.ga K "NoPiece")) (.type "ValueError") = some true)
def fq304 : Fq := fun K => decide (PySem.W.kitOne K (.ref (He.ga K "NoRow")) (.type "ValueError") = some true)
def fq305 : Fq := fun K => decide (PySem.W.nsIn K mainGlobals "_law_box" = some (some (.ref (He.ga K "_law_box"))))
def fq306 : Fq := fun K => decide ((fdAt K (He.ga K "_law_box")).defaults = .none)
abbrev st_law_box : Stmt := topS 13
def dq10 : DefQ := ⟨fun K => (He.ga K "_law_box"), "_law_box", "_law_box", st_law_box⟩
def fq307 : Fq := fun K => decide (PySem.W.codeIn K (fdAt K (He.ga K "_law_box")).code "_law_box" = true)
def fq308 : Fq := fun K => decide (PySem.W.keepIn K (.ref (He.ga K "_law_box")) = true)
def fq309 : Fq := fun K => decide (PySem.W.nsIn K mainGlobals "_law_take" = some (some (.ref (He.ga K "_law_take"))))
def fq310 : Fq := fun K => decide ((fdAt K (He.ga K "_law_take")).defaults = .none)
abbrev st_law_take : Stmt := topS 14
def dq11 : DefQ := ⟨fun K => (He.ga K "_law_take"), "_law_take", "_law_take", st_law_take⟩
def fq311 : Fq := fun K => decide (PySem.W.codeIn K (fdAt K (He.ga K "_law_take")).code "_law_take" = true)
def fq312 : Fq := fun K => decide (PySem.W.keepIn K (.ref (He.ga K "_law_take")) = true)
def fq313 : Fq := fun K => decide (PySem.W.nsIn K mainGlobals "_law_pick" = some (some (.ref (He.ga K "_law_pick"))))
def fq314 : Fq := fun K => decide ((fdAt K (He.ga K "_law_pick")).defaults = .none)
abbrev st_law_pick : Stmt := topS 15
def dq12 : DefQ := ⟨fun K => (He.ga K "_law_pick"), "_law_pick", "_law_pick", st_law_pick⟩
def fq315 : Fq := fun K => decide (PySem.W.codeIn K (fdAt K (He.ga K "_law_pick")).code "_law_pick" = true)
def fq316 : Fq := fun K => decide (PySem.W.keepIn K (.ref (He.ga K "_law_pick")) = true)
def fq317 : Fq := fun K => decide (PySem.W.nsIn K mainGlobals "_law_value" = some (some (.ref (He.ga K "_law_value"))))
def fq318 : Fq := fun K => decide ((fdAt K (He.ga K "_law_value")).defaults = .none)
abbrev st_law_value : Stmt := topS 16
def dq13 : DefQ := ⟨fun K => (He.ga K "_law_value"), "_law_value", "_law_value", st_law_value⟩
def fq319 : Fq := fun K => decide (PySem.W.codeIn K (fdAt K (He.ga K "_law_value")).code "_law_value" = true)
def fq320 : Fq := fun K => decide (PySem.W.keepIn K (.ref (He.ga K "_law_value")) = true)
def fq321 : Fq := fun K => decide (PySem.W.nsIn K mainGlobals "_law_made" = some (some (.ref (He.ga K "_law_made"))))
def fq322 : Fq := fun K => decide ((fdAt K (He.ga K "_law_made")).defaults = .none)
abbrev st_law_made : Stmt := topS 18
def dq14 : DefQ := ⟨fun K => (He.ga K "_law_made"), "_law_made", "_law_made", st_law_made⟩
def fq323 : Fq := fun K => decide (PySem.W.codeIn K (fdAt K (He.ga K "_law_made")).code "_law_made" = true)
def fq324 : Fq := fun K => decide (PySem.W.keepIn K (.ref (He.ga K "_law_made")) = true)
def fq325 : Fq := fun K => decide (PySem.W.nsIn K mainGlobals "_law_sorts" = some (some (.ref (He.ga K "_law_sorts"))))
def fq326 : Fq := fun K => decide ((fdAt K (He.ga K "_law_sorts")).defaults = .none)
abbrev st_law_sorts : Stmt := topS 17
def dq15 : DefQ := ⟨fun K => (He.ga K "_law_sorts"), "_law_sorts", "_law_sorts", st_law_sorts⟩
def fq327 : Fq := fun K => decide (PySem.W.codeIn K (fdAt K (He.ga K "_law_sorts")).code "_law_sorts" = true)
def fq328 : Fq := fun K => decide (PySem.W.keepIn K (.ref (He.ga K "_law_sorts")) = true)
def fq329 : Fq := fun K => decide (PySem.W.nsIn K mainGlobals "_law_held" = some (some (.ref (He.ga K "_law_held"))))
def fq330 : Fq := fun K => decide ((fdAt K (He.ga K "_law_held")).defaults = .none)
abbrev st_law_held : Stmt := topS 20
def dq16 : DefQ := ⟨fun K => (He.ga K "_law_held"), "_law_held", "_law_held", st_law_held⟩
def fq331 : Fq := fun K => decide (PySem.W.codeIn K (fdAt K (He.ga K "_law_held")).code "_law_held" = true)
def fq332 : Fq := fun K => decide (PySem.W.keepIn K (.ref (He.ga K "_law_held")) = true)
def fq333 : Fq := fun K => decide (PySem.W.nsIn K mainGlobals "_law_named" = some (some (.ref (He.ga K "_law_named"))))
def fq334 : Fq := fun K => decide ((fdAt K (He.ga K "_law_named")).defaults = .none)
abbrev st_law_named : Stmt := topS 19
def dq17 : DefQ := ⟨fun K => (He.ga K "_law_named"), "_law_named", "_law_named", st_law_named⟩
def fq335 : Fq := fun K => decide (PySem.W.codeIn K (fdAt K (He.ga K "_law_named")).code "_law_named" = true)
def fq336 : Fq := fun K => decide (PySem.W.keepIn K (.ref (He.ga K "_law_named")) = true)
def fq337 : Fq := fun K => decide (PySem.W.nsIn K mainGlobals "law" = some (some (.ref (He.ga K "law"))))
def fq338 : Fq := fun K => decide ((fdAt K (He.ga K "law")).defaults = .none)
abbrev st_law : Stmt := topS 21
def dq18 : DefQ := ⟨fun K => (He.ga K "law"), "law", "law", st_law⟩
def fq339 : Fq := fun K => decide (PySem.W.codeIn K (fdAt K (He.ga K "law")).code "law" = true)
def fq340 : Fq := fun K => decide (PySem.W.keepIn K (.ref (He.ga K "law")) = true)
def fsQ : List Fq := ([fq0, fq1, fq2, fq3, fq4, fq5, fq6, fq7, fq8, fq9, fq10, fq11, fq12, fq13, fq14, fq15, fq16, fq17, fq18, fq19, fq20, fq21, fq22, fq23, fq24, fq25, fq26, fq27, fq28, fq29] : List Fq) ++ (([fq30, fq31, fq32, fq33, fq34, fq35, fq36, fq37, fq38, fq39, fq40, fq41, fq42, fq43, fq44, fq45, fq46, fq47, fq48, fq49, fq50, fq51, fq52, fq53, fq54, fq55, fq56, fq57, fq58, fq59] : List Fq) ++ (([fq60, fq61, fq62, fq63, fq64, fq65, fq66, fq67, fq68, fq69, fq70, fq71, fq72, fq73, fq74, fq75, fq76, fq77, fq78, fq79, fq80, fq81, fq82, fq83, fq84, fq85, fq86, fq87, fq88, fq89] : List Fq) ++ (([fq90, fq91, fq92, fq93, fq94, fq95, fq96, fq97, fq98, fq99, fq100, fq101, fq102, fq103, fq104, fq105, fq106, fq107, fq108, fq109, fq110, fq111, fq112, fq113, fq114, fq115, fq116, fq117, fq118, fq119] : List Fq) ++ (([fq120, fq121, fq122, fq123, fq124, fq125, fq126, fq127, fq128, fq129, fq130, fq131, fq132, fq133, fq134, fq135, fq136, fq137, fq138, fq139, fq140, fq141, fq142, fq143, fq144, fq145, fq146, fq147, fq148, fq149] : List Fq) ++ (([fq150, fq151, fq152, fq153, fq154, fq155, fq156, fq157, fq158, fq159, fq160, fq161, fq162, fq163, fq164, fq165, fq166, fq167, fq168, fq169, fq170, fq171, fq172, fq173, fq174, fq175, fq176, fq177, fq178, fq179] : List Fq) ++ (([fq180, fq181, fq182, fq183, fq184, fq185, fq186, fq187, fq188, fq189, fq190, fq191, fq192, fq193, fq194, fq195, fq196, fq197, fq198, fq199, fq200, fq201, fq202, fq203, fq204, fq205, fq206, fq207, fq208, fq209] : List Fq) ++ (([fq210, fq211, fq212, fq213, fq214, fq215, fq216, fq217, fq218, fq219, fq220, fq221, fq222, fq223, fq224, fq225, fq226, fq227, fq228, fq229, fq230, fq231, fq232, fq233, fq234, fq235, fq236, fq237, fq238, fq239] : List Fq) ++ (([fq240, fq241, fq242, fq243, fq244, fq245, fq246, fq247, fq248, fq249, fq250, fq251, fq252, fq253, fq254, fq255, fq256, fq257, fq258, fq259, fq260, fq261, fq262, fq263, fq264, fq265, fq266, fq267, fq268, fq269] : List Fq) ++ (([fq270, fq271, fq272, fq273, fq274, fq275, fq276, fq277, fq278, fq279, fq280, fq281, fq282, fq283, fq284, fq285, fq286, fq287, fq288, fq289, fq290, fq291, fq292, fq293, fq294, fq295, fq296, fq297, fq298, fq299] : List Fq) ++ (([fq300, fq301, fq302, fq303, fq304, fq305, fq306, fq307, fq308, fq309, fq310, fq311, fq312, fq313, fq314, fq315, fq316, fq317, fq318, fq319, fq320, fq321, fq322, fq323, fq324, fq325, fq326, fq327, fq328, fq329] : List Fq) ++ (([fq330, fq331, fq332, fq333, fq334, fq335, fq336, fq337, fq338, fq339, fq340] : List Fq))))))))))))
def fnQ : List DefQ := ([dq0, dq1, dq2, dq3, dq4, dq5, dq6, dq7, dq8, dq9, dq10, dq11, dq12, dq13, dq14, dq15, dq16, dq17, dq18] : List DefQ)
def looseQ : List Str := (["LayError", "InvalidPiece", "InvalidProgram", "InvalidText", "InvalidRow", "InvalidTool", "InvalidGoal", "InvalidCommand", "Refused", "NoPiece", "NoRow", "_law_box", "_law_take", "_law_pick", "_law_value", "_law_sorts", "_law_made", "_law_named", "_law_held"] : List Str)
abbrev RQ : PySem.W.OpenRow := PySem.W.OpenLaw.row PySem.Challenge.rw_laytwice_k01_errors
abbrev hkQ : PySem.W.Hook := hookQ 4000 fsQ fnQ
def obQ (s : PySem.W.SharedT) : AlQ := obsQ fsQ fnQ (partQ 4000 (HandSHeadRun.getT s))
theorem runQ (w : World) : HandSHeadRun.RunEq RQ (PySem.W.view RQ.prog [21]) hkQ obQ 20000 looseQ w := by
  intro os
  kernel_rfl
end LawR
set_option Elab.async false
set_option linter.all false
set_option maxRecDepth 100000
namespace LT
open PySem PySem.Spec PyProof.Rows L2
abbrev NK := NestedKey
mutual
/-- the value v is the key k -/
inductive NV (K : PySem.W.Frag) (H : Hp) : NK → V → Prop
  | non : NV K H .none .non
  | bl (b : Bool) : NV K H (.num (if b = true then 1 else 0)) (.bl b)
  | int (i : Int) : NV K H (.num i) (.int i)
  | str (x : Str) : NV K H (.text x) (.str x)
  | tup {a : Addr} {vs : List V} {ks : List NK} (h : SqT K H a vs) (r : NVs K H ks vs) : NV K H (.tup ks) (.ref a)
inductive NVs (K : PySem.W.Frag) (H : Hp) : List NK → List V → Prop
  | nil : NVs K H [] []
  | cons {k : NK} {v : V} {ks : List NK} {vs : List V} (h : NV K H k v) (t : NVs K H ks vs) : NVs K H (k :: ks) (v :: vs)
end
section
variable {P : Program} {w : World} {K : PySem.W.Frag} {H H' : Hp} {h : Heap}
mutual
theorem NV.is (hok : HOk P w H h) (KX : K.In h) : ∀ {k : NK} {v : V} {u : Value}, NV K H k v → RelV v u → NestedIs h k u
  | _, _, _, .non, r => by cases r; exact .none
  | _, _, _, .bl b, r => by cases r; exact .bool rfl
  | _, _, _, .int i, r => by obtain ⟨t, rfl⟩ := r; exact .int i t
  | _, _, _, .str x, r => by obtain ⟨t, rfl⟩ := r; exact .text x t
  | _, _, _, .tup q s, r => by
    cases r
    obtain ⟨its, o, n, hv, e, hc, hd⟩ := sqT_at hok KX q
    exact .tup e hc hd (by simpa using NVs.are hok KX s hv)
theorem NVs.are (hok : HOk P w H h) (KX : K.In h) : ∀ {ks : List NK} {vs : List V} {us : List Value}, NVs K H ks vs → Vals vs us → NestedAll h ks us
  | _, _, _, .nil, r => by cases r; exact .nil
  | _, _, _, .cons a t, r => by
    cases r with
    | cons r1 r2 => exact .cons (NV.is hok KX a r1) (NVs.are hok KX t r2)
end
mutual
theorem NV.mono (st : ∀ a xs, SqT K H a xs → SqT K H' a xs) : ∀ {k : NK} {v : V}, NV K H k v → NV K H' k v
  | _, _, .non => .non
  | _, _, .bl b => .bl b
  | _, _, .int i => .int i
  | _, _, .str x => .str x
  | _, _, .tup q s => .tup (st _ _ q) (NVs.mono st s)
theorem NVs.mono (st : ∀ a xs, SqT K H a xs → SqT K H' a xs) : ∀ {ks : List NK} {vs : List V}, NVs K H ks vs → NVs K H' ks vs
  | _, _, .nil => .nil
  | _, _, .cons a t => .cons (NV.mono st a) (NVs.mono st t)
end
end
abbrev NE := NK × Addr × V
def NR2 : NE → NK × Addr × Value → Prop := fun p q => p.1 = q.1 ∧ p.2.1 = q.2.1 ∧ RelV p.2.2 q.2.2
def entN (hs : NK → Int) (x : NK × Addr × Value) : DictEntry := ⟨hs x.1, .ref x.2.1, x.2.2⟩
def NO (hs : NK → Int) (o : Obj) (a : Addr) (xs : List NE) : HO := .ext fun h => xs.length ≤ sizeLine ∧ (a == sysModules) = false ∧ (xs.map (·.1)).Nodup ∧ ∃ vs, Paired NR2 xs vs ∧ h.get? a = some o ∧ o.ExactDict ∧ ∃ es ep, o.data = .dict es ep ∧ es.toList = vs.map (entN hs)
def ND (hs : NK → Int) (H : Hp) (a : Addr) (xs : List NE) : Prop := ∃ o, H a = some (NO hs o a xs)
def NKs (K : PySem.W.Frag) (H : Hp) (xs : List NE) : Prop := ∀ x ∈ xs, NV K H x.1 (.ref x.2.1) ∧ x.1.depth ≤ 8
def valN (xs : List NE) (k : NK) : Option V := (xs.find? fun x => decide (x.1 = k)).map (·.2.2)
def nputN (xs : List NE) (k : NK) (b : Addr) (v : V) : List NE := if (valN xs k).isSome then xs.map (fun x => if x.1 = k then (x.1, x.2.1, v) else x) else xs ++ [(k, b, v)]
theorem NKs.put {K : PySem.W.Frag} {H : Hp} {xs : List NE} (h : NKs K H xs) {k : NK} {b : Addr} (v : V) (hk : NV K H k (.ref b)) (hd : k.depth ≤ 8) : NKs K H (nputN xs k b v) := by
  unfold nputN
  split
  · intro x hx
    obtain ⟨y, hy, rfl⟩ := List.mem_map.mp hx
    split
    · exact h y hy
    · exact h y hy
  · intro x hx
    rcases List.mem_append.mp hx with q | q
    · exact h x q
    · rw [List.mem_singleton] at q; subst q; exact ⟨hk, hd⟩
theorem NKs.mono {K : PySem.W.Frag} {H H' : Hp} {xs : List NE} (st : ∀ a ys, SqT K H a ys → SqT K H' a ys) (h : NKs K H xs) : NKs K H' xs := fun x hx => ⟨(h x hx).1.mono st, (h x hx).2⟩

section
variable {X : Cx} {pins : List (Addr × Obj)} {σ : L2.St} {H : Hp} {s : Shared} {a b : Addr} {xs : List NE} {k : NK} {v y : V} {u r : Value} {A : Around} {E : Value → Shared → Prop} {hs : NK → Int} {o : Obj}
theorem NO.ok {P : Program} {w : World} {h : Heap} (hok : HOk P w H h) (q : H a = some (NO hs o a xs)) : xs.length ≤ sizeLine ∧ (a == sysModules) = false ∧ (xs.map (·.1)).Nodup ∧ ∃ vs, Paired NR2 xs vs ∧ h.get? a = some o ∧ o.ExactDict ∧ ∃ es ep, o.data = .dict es ep ∧ es.toList = vs.map (entN hs) :=
  (show ObjOk P w H h a (NO hs o a xs) from hok a _ q).1
theorem NO.new {P : Program} {w : World} {h' : Heap} {H' : Hp} {vs : List (NK × Addr × Value)} {es : Array DictEntry} {ep : Nat} (z : xs.length ≤ sizeLine) (hd : (a == sysModules) = false) (hn : (xs.map (·.1)).Nodup) (r : Paired NR2 xs vs)
    (e1 : h'.get? a = some o) (e2 : o.ExactDict) (e3 : o.data = .dict es ep) (e4 : es.toList = vs.map (entN hs)) : ObjOk P w H' h' a (NO hs o a xs) :=
  ⟨⟨z, hd, hn, vs, r, e1, e2, es, ep, e3, e4⟩, ⟨o, e1⟩, fun h1 h2 ⟨z, hd, hn, vs, r, e1, e⟩ k => ⟨z, hd, hn, vs, r, k o e1, e⟩⟩
end
end LT
set_option Elab.async false
set_option linter.all false
set_option maxRecDepth 100000
namespace LT
open PySem PySem.Spec PyProof.Rows L2

inductive Dt where
  | non | bl (b : Bool) | int (i : Int) | str (s : List Nat) | tup (xs : List Dt) | rl (xs : List Dt) | li (xs : List Dt) | ob (c : Nat) (fs : List (Nat × Dt)) | dv (kvs : List (Dt × Dt)) | ref (i : Nat) | cl (c : Nat) | dn (kvs : List (Dt × Dt)) | er (c : Nat) (fs : List (Nat × Dt))
inductive Ob where
  | lst (xs : List Dt) | dk (kvs : List (Dt × Dt)) | ins (c : Nat) (fs : List (Nat × Dt)) | dn (kvs : List (Dt × Dt))
abbrev Sto := List Ob
abbrev Lo := List (Option Dt)
inductive Re (α : Type) where
  | ok (a : α) (st : Sto) | exc (c : Nat) (fs : List (Nat × Dt)) (st : Sto) | stuck
inductive Rs where
  | nx (e : Lo) (st : Sto) | rt (d : Dt) (st : Sto) | bk (e : Lo) (st : Sto) | ct (e : Lo) (st : Sto)
  | ex (e : Lo) (c : Nat) (fs : List (Nat × Dt)) (st : Sto) | stuck
def Re.bind {α β : Type} (r : Re α) (f : α → Sto → Re β) : Re β := match r with
  | .ok a st => f a st
  | .exc c fs st => .exc c fs st
  | .stuck => .stuck
theorem Re.bind_assoc {α β γ : Type} (r : Re α) (f : α → Sto → Re β) (g : β → Sto → Re γ) : (r.bind f).bind g = r.bind fun a st => (f a st).bind g := by cases r <;> rfl
def Re.on {α : Type} (r : Re α) (env : Lo) (f : α → Sto → Rs) : Rs := match r with
  | .ok a st => f a st
  | .exc c fs st => .ex env c fs st
  | .stuck => .stuck
abbrev M (α : Type) := Lo → Sto → Re α
abbrev ME := M Dt
abbrev MT := M Bool
abbrev MA := M (List Dt)
abbrev MS := Lo → Sto → Rs
abbrev MF := List Dt → Sto → Re Dt

structure Tz where
  cls : Nat → Addr
  fld : Nat → Str
  inj : ∀ i j, fld i = fld j → i = j
  hs : NK → Int := fun _ => 0
structure Tb where
  b : Tz
  rs : List Addr
abbrev Tb.cls (T : Tb) : Nat → Addr := T.b.cls
abbrev Tb.fld (T : Tb) : Nat → Str := T.b.fld
theorem Tb.inj (T : Tb) : ∀ i j, T.fld i = T.fld j → i = j := T.b.inj

def SqF (K : PySem.W.Frag) (H : Hp) (a : Addr) (xs : List V) : Prop :=
  (∃ o, H a = some (.frz o (.lst xs))) ∨ ∃ (o : Obj) (its : Array Value) (n : Nat), K.lookup a = some o ∧ o.cls = .type "list" ∧ o.dict = none ∧ o.data = .seq its n ∧ its.size ≤ sizeLine ∧ Vals xs its.toList
theorem SqF.sq {K : PySem.W.Frag} {H : Hp} {a : Addr} {xs : List V} (h : SqF K H a xs) : SqL K H a xs := by
  rcases h with ⟨o, h⟩ | h
  · exact .inl (.inr ⟨o, h⟩)
  · exact .inr h
def KR : Dt → Key → Prop
  | .int i, .inl j => i = j
  | .str s, .inr x => x.cps.toList = s
  | _, _ => False
mutual
/-- a value as a key -/
def nk : Dt → Option NK
  | .non => some .none
  | .bl b => some (.num (if b = true then 1 else 0))
  | .int i => some (.num i)
  | .str s => some (.text ⟨s.toArray⟩)
  | .tup ds => (nks ds).map .tup
  | .rl _ => none
  | .li _ => none
  | .ob _ _ => none
  | .dv _ => none
  | .ref _ => none
  | .cl _ => none
  | .dn _ => none
  | .er _ _ => none
def nks : List Dt → Option (List NK)
  | [] => some []
  | d :: r => match nk d, nks r with
    | some k, some ks => some (k :: ks)
    | _, _ => none
end
def keyN : Dt → Option NK
  | .tup ds => match nks ds with
    | some ks => if NestedKey.depth (.tup ks) ≤ 8 then some (.tup ks) else none
    | none => none
  | _ => none
mutual
inductive RV (K : PySem.W.Frag) (T : Tb) (H : Hp) (f : List Addr) : Dt → V → Prop
  | non : RV K T H f .non .non
  | bl (b : Bool) : RV K T H f (.bl b) (.bl b)
  | int (i : Int) : RV K T H f (.int i) (.int i)
  | str (x : Str) : RV K T H f (.str x.cps.toList) (.str x)
  | tup {ds : List Dt} {vs : List V} {a : Addr} (h : SqT K H a vs) (r : RVs K T H f ds vs) : RV K T H f (.tup ds) (.ref a)
  | rl {ds : List Dt} {vs : List V} {a : Addr} (h : SqF K H a vs) (r : RVs K T H f ds vs) : RV K T H f (.rl ds) (.ref a)
  | li {ds : List Dt} {vs : List V} {a : Addr} (hf : a ∉ f ∧ a ∉ T.rs) (h : H a = some (.lst vs)) (r : RVs K T H f ds vs) : RV K T H f (.li ds) (.ref a)
  | ob {c : Nat} {fs : List (Nat × Dt)} {vs : List (Str × V)} {a dx : Addr} (hf : a ∉ f ∧ a ∉ T.rs) (h : H a = some (.ins (T.cls c) dx vs)) (r : FR K T H f fs vs) : RV K T H f (.ob c fs) (.ref a)
  | dv {kvs : List (Dt × Dt)} {vs : List (Key × V)} {a : Addr} (hf : a ∉ f ∧ a ∉ T.rs) (h : H a = some (.dK vs)) (r : DR K T H f kvs vs) : RV K T H f (.dv kvs) (.ref a)
  | ref {i : Nat} {a : Addr} (h : f[i]? = some a) : RV K T H f (.ref i) (.ref a)
  | cl (c : Nat) : RV K T H f (.cl c) (.ref (T.cls c))
  | dn {kvs : List (Dt × Dt)} {vs : List NE} {a : Addr} (hf : a ∉ f ∧ a ∉ T.rs) (h : ND T.b.hs H a vs) (r : NR K T H f kvs vs) : RV K T H f (.dn kvs) (.ref a)
  | er {c : Nat} {fs : List (Nat × Dt)} {vs : List (Str × V)} {a dx : Addr} (hf : a ∉ f ∧ a ∉ T.rs) (hx : dx ∉ f ∧ dx ∉ T.rs) (h : H a = some (exo a (T.cls c) (some dx))) (h2 : H dx = some (exd dx vs)) (r : FR K T H f fs vs) : RV K T H f (.er c fs) (.ref a)
  | er0 {c : Nat} {a : Addr} (hf : a ∉ f ∧ a ∉ T.rs) (h : H a = some (exo a (T.cls c) none)) : RV K T H f (.er c []) (.ref a)
inductive RVs (K : PySem.W.Frag) (T : Tb) (H : Hp) (f : List Addr) : List Dt → List V → Prop
  | nil : RVs K T H f [] []
  | cons {d : Dt} {v : V} {ds : List Dt} {vs : List V} (h : RV K T H f d v) (t : RVs K T H f ds vs) : RVs K T H f (d :: ds) (v :: vs)
inductive FR (K : PySem.W.Frag) (T : Tb) (H : Hp) (f : List Addr) : List (Nat × Dt) → List (Str × V) → Prop
  | nil : FR K T H f [] []
  | cons {i : Nat} {d : Dt} {v : V} {fs : List (Nat × Dt)} {vs : List (Str × V)} (h : RV K T H f d v) (t : FR K T H f fs vs) : FR K T H f ((i, d) :: fs) ((T.fld i, v) :: vs)
inductive DR (K : PySem.W.Frag) (T : Tb) (H : Hp) (f : List Addr) : List (Dt × Dt) → List (Key × V) → Prop
  | nil : DR K T H f [] []
  | cons {k d : Dt} {q : Key} {v : V} {fs : List (Dt × Dt)} {vs : List (Key × V)} (hk : KR k q) (h : RV K T H f d v) (t : DR K T H f fs vs) : DR K T H f ((k, d) :: fs) ((q, v) :: vs)
inductive NR (K : PySem.W.Frag) (T : Tb) (H : Hp) (f : List Addr) : List (Dt × Dt) → List NE → Prop
  | nil : NR K T H f [] []
  | cons {k d : Dt} {q : NK} {b : Addr} {v : V} {fs : List (Dt × Dt)} {vs : List NE} (hk : RV K T H f k (.ref b)) (hn : keyN k = some q) (h : RV K T H f d v) (t : NR K T H f fs vs) : NR K T H f ((k, d) :: fs) ((q, b, v) :: vs)
end
mutual
theorem RV.nv {K : PySem.W.Frag} {T : Tb} {H : Hp} {f : List Addr} : ∀ {d : Dt} {v : V} {q : NK}, RV K T H f d v → nk d = some q → NV K H q v
  | _, _, _, .non, e => by simp only [nk, Option.some.injEq] at e; subst e; exact .non
  | _, _, _, .bl b, e => by simp only [nk, Option.some.injEq] at e; subst e; exact .bl b
  | _, _, _, .int i, e => by simp only [nk, Option.some.injEq] at e; subst e; exact .int i
  | _, _, _, .str x, e => by simp only [nk, Option.some.injEq, Array.toArray_toList] at e; subst e; exact .str x
  | _, _, _, @RV.tup _ _ _ _ ds _ _ h r, e => by
    simp only [nk] at e
    cases hk : nks ds with
    | none => rw [hk] at e; cases e
    | some ks => rw [hk] at e; cases e; exact .tup h (RVs.nvs r hk)
  | _, _, _, .rl _ _, e => by simp only [nk] at e; cases e
  | _, _, _, .li _ _ _, e => by simp only [nk] at e; cases e
  | _, _, _, .ob _ _ _, e => by simp only [nk] at e; cases e
  | _, _, _, .dv _ _ _, e => by simp only [nk] at e; cases e
  | _, _, _, .ref _, e => by simp only [nk] at e; cases e
  | _, _, _, .cl _, e => by simp only [nk] at e; cases e
  | _, _, _, .dn _ _ _, e => by simp only [nk] at e; cases e
  | _, _, _, .er _ _ _ _ _, e => by simp only [nk] at e; cases e
  | _, _, _, .er0 _ _, e => by simp only [nk] at e; cases e
theorem RVs.nvs {K : PySem.W.Frag} {T : Tb} {H : Hp} {f : List Addr} : ∀ {ds : List Dt} {vs : List V} {qs : List NK}, RVs K T H f ds vs → nks ds = some qs → NVs K H qs vs
  | _, _, _, .nil, e => by simp only [nks, Option.some.injEq] at e; subst e; exact .nil
  | _, _, _, @RVs.cons _ _ _ _ d _ ds _ h t, e => by
    simp only [nks] at e
    cases hk : nk d with
    | none => rw [hk] at e; cases e
    | some k =>
      cases hks : nks ds with
      | none => rw [hk, hks] at e; cases e
      | some ks => rw [hk, hks] at e; cases e; exact .cons (RV.nv h hk) (RVs.nvs t hks)
end
structure Stay0 (K : PySem.W.Frag) (T : Tb) (f : List Addr) (H : Hp) (f' : List Addr) (H' : Hp) : Prop where
  t : ∀ a xs, SqT K H a xs → SqT K H' a xs
  l : ∀ a xs, SqF K H a xs → SqF K H' a xs
  o : ∀ a u, a ∉ f → a ∉ T.rs → H a = some u → H' a = some u
  n : ∀ a, a ∈ f' → a ∈ f ∨ H a = none
structure Stay (K : PySem.W.Frag) (T : Tb) (f : List Addr) (H : Hp) (f' : List Addr) (H' : Hp) : Prop extends Stay0 K T f H f' H' where
  r : ∀ a u, a ∉ f → a ∈ T.rs → H a = some u → H' a = some u
theorem Stay.refl {K : PySem.W.Frag} {T : Tb} {f : List Addr} {H : Hp} : Stay K T f H f H := ⟨⟨fun _ _ h => h, fun _ _ h => h, fun _ _ _ _ h => h, fun _ h => .inl h⟩, fun _ _ _ _ h => h⟩
theorem Stay0.off {K : PySem.W.Frag} {T : Tb} {f f' : List Addr} {H H' : Hp} (s : Stay0 K T f H f' H') {a : Addr} {u : HO} (hf : a ∉ f) (h : H a = some u) : a ∉ f' := fun z => by
  rcases s.n a z with q | q
  · exact hf q
  · rw [h] at q; cases q
theorem Stay.any {K : PySem.W.Frag} {T : Tb} {f f' : List Addr} {H H' : Hp} (s : Stay K T f H f' H') {a : Addr} {u : HO} (hf : a ∉ f) (h : H a = some u) : H' a = some u := by
  by_cases hr : a ∈ T.rs
  · exact s.r a u hf hr h
  · exact s.o a u hf hr h
theorem Stay0.offN {K : PySem.W.Frag} {T : Tb} {f f' : List Addr} {H H' : Hp} (s : Stay0 K T f H f' H') {hs : NK → Int} {a : Addr} {xs : List NE} (hf : a ∉ f ∧ a ∉ T.rs) (h : ND hs H a xs) : (a ∉ f' ∧ a ∉ T.rs) ∧ ND hs H' a xs := by
  obtain ⟨o, h⟩ := h
  exact ⟨⟨s.off hf.1 h, hf.2⟩, o, s.o _ _ hf.1 hf.2 h⟩
theorem Stay.trans {K : PySem.W.Frag} {T : Tb} {f f1 f2 : List Addr} {H H1 H2 : Hp} (a : Stay K T f H f1 H1) (b : Stay K T f1 H1 f2 H2) : Stay K T f H f2 H2 :=
  ⟨⟨fun p xs h => b.t p xs (a.t p xs h), fun p xs h => b.l p xs (a.l p xs h), fun p u hf hr h => b.o p u (a.off hf h) hr (a.o p u hf hr h), fun p hp => by
    rcases b.n p hp with q | q
    · exact a.n p q
    · by_cases hf : p ∈ f
      · exact .inl hf
      · cases e : H p with
        | none => exact .inr rfl
        | some u => rw [a.any hf e] at q; cases q⟩, fun p u hf hr h => b.r p u (a.off hf h) hr (a.r p u hf hr h)⟩
theorem Stay.tl {K : PySem.W.Frag} {H : Hp} {p : Addr} {o : HO} (ht : ∀ xs, H p ≠ some (.tup xs)) (hf : ∀ q u, H p ≠ some (.frz q u)) : (∀ a xs, SqT K H a xs → SqT K (upd H p o) a xs) ∧ ∀ a xs, SqF K H a xs → SqF K (upd H p o) a xs := by
  refine ⟨fun a xs h => ?_, fun a xs h => ?_⟩
  · rcases h with (h | ⟨q, h⟩) | h
    · exact .inl (.inl (by rw [upd_ne (fun e => ht xs (by rw [← e]; exact h))]; exact h))
    · exact .inl (.inr ⟨q, by rw [upd_ne (fun e => hf _ _ (by rw [← e]; exact h))]; exact h⟩)
    · exact .inr h
  · rcases h with ⟨q, h⟩ | h
    · exact .inl ⟨q, by rw [upd_ne (fun e => hf _ _ (by rw [← e]; exact h))]; exact h⟩
    · exact .inr h
theorem Stay.but {K : PySem.W.Frag} {T : Tb} {f : List Addr} {H : Hp} {p : Addr} {o : HO} (hm : p ∈ f) (ht : ∀ xs, H p ≠ some (.tup xs)) (hf : ∀ q u, H p ≠ some (.frz q u)) : Stay K T f H f (upd H p o) :=
  ⟨⟨(Stay.tl ht hf).1, (Stay.tl ht hf).2, fun a u ha _ h => by rw [upd_ne (fun e => ha (by rw [e]; exact hm))]; exact h, fun _ h => .inl h⟩, fun a u ha _ h => by rw [upd_ne (fun e => ha (by rw [e]; exact hm))]; exact h⟩
theorem Stay0.aside {K : PySem.W.Frag} {T : Tb} {f : List Addr} {H : Hp} {p : Addr} {o : HO} (hm : p ∈ T.rs) (ht : ∀ xs, H p ≠ some (.tup xs)) (hf : ∀ q u, H p ≠ some (.frz q u)) : Stay0 K T f H f (upd H p o) :=
  ⟨(Stay.tl ht hf).1, (Stay.tl ht hf).2, fun a u _ ha h => by rw [upd_ne (fun e => ha (by rw [e]; exact hm))]; exact h, fun _ h => .inl h⟩
theorem Stay.new {K : PySem.W.Frag} {T : Tb} {f : List Addr} {H : Hp} {p : Addr} {o : HO} (h : H p = none) : Stay K T f H f (upd H p o) :=
  have q := Stay.tl (K := K) (H := H) (p := p) (o := o) (fun xs e => by rw [h] at e; cases e) (fun q u e => by rw [h] at e; cases e)
  ⟨⟨q.1, q.2, fun a u _ _ e => by rw [upd_ne (fun z => by rw [z, h] at e; cases e)]; exact e, fun _ h => .inl h⟩, fun a u _ _ e => by rw [upd_ne (fun z => by rw [z, h] at e; cases e)]; exact e⟩
theorem Stay.newA {K : PySem.W.Frag} {T : Tb} {f : List Addr} {H : Hp} {p : Addr} {o : HO} (h : H p = none) : Stay K T f H (f ++ [p]) (upd H p o) :=
  have q := Stay.new (K := K) (T := T) (f := f) (o := o) h
  ⟨⟨q.t, q.l, q.o, fun a ha => by
    rcases List.mem_append.mp ha with z | z
    · exact .inl z
    · have : a = p := by simpa using z
      rw [this]; exact .inr h⟩, q.r⟩

section
variable {K : PySem.W.Frag} {T : Tb} {H H' : Hp} {f f' : List Addr}
theorem mem_of {i : Nat} {a : Addr} (h : f[i]? = some a) : a ∈ f := List.mem_iff_getElem?.mpr ⟨i, h⟩
theorem get_pre {i : Nat} {a : Addr} (hp : f <+: f') (h : f[i]? = some a) : f'[i]? = some a := by
  obtain ⟨t, rfl⟩ := hp
  have hl : i < f.length := by
    rcases Nat.lt_or_ge i f.length with g | g
    · exact g
    · rw [List.getElem?_eq_none g] at h; cases h
  rw [List.getElem?_append_left hl]
  exact h
mutual
theorem RV.mono0 (hp : f <+: f') (s : Stay0 K T f H f' H') : ∀ {d : Dt} {v : V}, RV K T H f d v → RV K T H' f' d v
  | _, _, .non => .non
  | _, _, .bl b => .bl b
  | _, _, .int i => .int i
  | _, _, .str x => .str x
  | _, _, .tup h r => .tup (s.t _ _ h) (RVs.mono0 hp s r)
  | _, _, .rl h r => .rl (s.l _ _ h) (RVs.mono0 hp s r)
  | _, _, .li hf h r => .li ⟨s.off hf.1 h, hf.2⟩ (s.o _ _ hf.1 hf.2 h) (RVs.mono0 hp s r)
  | _, _, .ob hf h r => .ob ⟨s.off hf.1 h, hf.2⟩ (s.o _ _ hf.1 hf.2 h) (FR.mono0 hp s r)
  | _, _, .dv hf h r => .dv ⟨s.off hf.1 h, hf.2⟩ (s.o _ _ hf.1 hf.2 h) (DR.mono0 hp s r)
  | _, _, .ref h => .ref (get_pre hp h)
  | _, _, .cl c => .cl c
  | _, _, .dn hf h r => .dn (s.offN hf h).1 (s.offN hf h).2 (NR.mono0 hp s r)
  | _, _, .er hf hx h h2 r => .er ⟨s.off hf.1 h, hf.2⟩ ⟨s.off hx.1 h2, hx.2⟩ (s.o _ _ hf.1 hf.2 h) (s.o _ _ hx.1 hx.2 h2) (FR.mono0 hp s r)
  | _, _, .er0 hf h => .er0 ⟨s.off hf.1 h, hf.2⟩ (s.o _ _ hf.1 hf.2 h)
theorem RVs.mono0 (hp : f <+: f') (s : Stay0 K T f H f' H') : ∀ {ds : List Dt} {vs : List V}, RVs K T H f ds vs → RVs K T H' f' ds vs
  | _, _, .nil => .nil
  | _, _, .cons h t => .cons (RV.mono0 hp s h) (RVs.mono0 hp s t)
theorem FR.mono0 (hp : f <+: f') (s : Stay0 K T f H f' H') : ∀ {fs : List (Nat × Dt)} {vs : List (Str × V)}, FR K T H f fs vs → FR K T H' f' fs vs
  | _, _, .nil => .nil
  | _, _, .cons h t => .cons (RV.mono0 hp s h) (FR.mono0 hp s t)
theorem DR.mono0 (hp : f <+: f') (s : Stay0 K T f H f' H') : ∀ {fs : List (Dt × Dt)} {vs : List (Key × V)}, DR K T H f fs vs → DR K T H' f' fs vs
  | _, _, .nil => .nil
  | _, _, .cons hk h t => .cons hk (RV.mono0 hp s h) (DR.mono0 hp s t)
theorem NR.mono0 (hp : f <+: f') (s : Stay0 K T f H f' H') : ∀ {fs : List (Dt × Dt)} {vs : List NE}, NR K T H f fs vs → NR K T H' f' fs vs
  | _, _, .nil => .nil
  | _, _, .cons hk hn h t => .cons (RV.mono0 hp s hk) hn (RV.mono0 hp s h) (NR.mono0 hp s t)
end
theorem RV.mono (hp : f <+: f') (s : Stay K T f H f' H') {d : Dt} {v : V} (r : RV K T H f d v) : RV K T H' f' d v := r.mono0 hp s.toStay0
theorem RVs.mono (hp : f <+: f') (s : Stay K T f H f' H') {ds : List Dt} {vs : List V} (r : RVs K T H f ds vs) : RVs K T H' f' ds vs := r.mono0 hp s.toStay0
theorem FR.mono (hp : f <+: f') (s : Stay K T f H f' H') {fs : List (Nat × Dt)} {vs : List (Str × V)} (r : FR K T H f fs vs) : FR K T H' f' fs vs := r.mono0 hp s.toStay0
theorem DR.mono (hp : f <+: f') (s : Stay K T f H f' H') {fs : List (Dt × Dt)} {vs : List (Key × V)} (r : DR K T H f fs vs) : DR K T H' f' fs vs := r.mono0 hp s.toStay0
theorem NR.mono (hp : f <+: f') (s : Stay K T f H f' H') {fs : List (Dt × Dt)} {vs : List NE} (r : NR K T H f fs vs) : NR K T H' f' fs vs := r.mono0 hp s.toStay0
theorem NR.len : ∀ {fs : List (Dt × Dt)} {vs : List NE}, NR K T H f fs vs → fs.length = vs.length
  | _, _, .nil => rfl
  | _, _, .cons _ _ _ t => by rw [List.length_cons, List.length_cons, NR.len t]
theorem RVs.len : ∀ {ds : List Dt} {vs : List V}, RVs K T H f ds vs → ds.length = vs.length
  | _, _, .nil => rfl
  | _, _, .cons _ t => by rw [List.length_cons, List.length_cons, RVs.len t]
theorem RVs.get : ∀ {ds : List Dt} {vs : List V} {i : Nat} {d : Dt}, RVs K T H f ds vs → ds[i]? = some d → ∃ v, vs[i]? = some v ∧ RV K T H f d v
  | _, _, _, _, .nil, e => by simp at e
  | _, _, 0, _, .cons h _, e => by simp at e; subst e; exact ⟨_, rfl, h⟩
  | _, _, i + 1, _, .cons _ t, e => by
    obtain ⟨v, h1, h2⟩ := RVs.get (i := i) t (by simpa using e)
    exact ⟨v, by simpa using h1, h2⟩
theorem RVs.app : ∀ {ds es : List Dt} {vs ws : List V}, RVs K T H f ds vs → RVs K T H f es ws → RVs K T H f (ds ++ es) (vs ++ ws)
  | _, _, _, _, .nil, s => s
  | _, _, _, _, .cons h t, s => .cons h (RVs.app t s)
theorem RVs.one {d : Dt} {v : V} (h : RV K T H f d v) : RVs K T H f [d] [v] := .cons h .nil
theorem RVs.set {d : Dt} {v : V} (r : RV K T H f d v) : ∀ {ds : List Dt} {vs : List V} (i : Nat), RVs K T H f ds vs → RVs K T H f (ds.set i d) (vs.set i v)
  | _, _, _, .nil => .nil
  | _, _, 0, .cons _ t => .cons r t
  | _, _, i + 1, .cons h t => .cons h (RVs.set r i t)
theorem RVs.take : ∀ {ds : List Dt} {vs : List V} (n : Nat), RVs K T H f ds vs → RVs K T H f (ds.take n) (vs.take n)
  | _, _, 0, _ => .nil
  | _, _, _ + 1, .nil => .nil
  | _, _, n + 1, .cons r t => .cons r (RVs.take n t)
theorem RVs.drop : ∀ {ds : List Dt} {vs : List V} (n : Nat), RVs K T H f ds vs → RVs K T H f (ds.drop n) (vs.drop n)
  | _, _, 0, r => r
  | _, _, _ + 1, .nil => .nil
  | _, _, n + 1, .cons _ t => RVs.drop n t
end

structure REn (K : PySem.W.Frag) (T : Tb) (H : Hp) (f : List Addr) (env : Lo) (σ : L2.St) : Prop where
  len : env.length = σ.length
  get : ∀ (i : Nat) (d : Dt), env[i]? = some (some d) → ∃ v, σ[i]? = some (some v) ∧ RV K T H f d v
def RO (K : PySem.W.Frag) (T : Tb) (H : Hp) (f : List Addr) (a : Addr) : Ob → Prop
  | .lst ds => ∃ vs, H a = some (.lst vs) ∧ RVs K T H f ds vs
  | .dk kvs => ∃ vs, H a = some (.dK vs) ∧ DR K T H f kvs vs
  | .ins c fs => ∃ dx vs, H a = some (.ins (T.cls c) dx vs) ∧ FR K T H f fs vs
  | .dn kvs => ∃ vs, ND T.b.hs H a vs ∧ NR K T H f kvs vs
theorem ND.at {hs : NK → Int} {H H' : Hp} {a : Addr} {xs : List NE} (e : H' a = H a) (h : ND hs H a xs) : ND hs H' a xs := by
  obtain ⟨o, h⟩ := h
  exact ⟨o, e.trans h⟩
structure RH (K : PySem.W.Frag) (T : Tb) (f : List Addr) (H : Hp) (st : Sto) : Prop where
  len : f.length = st.length
  nd : f.Nodup
  obj : ∀ (i : Nat) (o : Ob) (a : Addr), st[i]? = some o → f[i]? = some a → RO K T H f a o
  rsv : ∀ a, a ∈ T.rs → a ∉ f ∧ ∃ u, H a = some u
section
variable {K : PySem.W.Frag} {T : Tb} {H H' : Hp} {f f' : List Addr} {env : Lo} {σ : L2.St} {st : Sto}
theorem REn.mono0 (r : REn K T H f env σ) (hp : f <+: f') (s : Stay0 K T f H f' H') : REn K T H' f' env σ := ⟨r.len, fun i d e => by
  obtain ⟨v, h1, h2⟩ := r.get i d e
  exact ⟨v, h1, h2.mono0 hp s⟩⟩
theorem REn.mono (r : REn K T H f env σ) (hp : f <+: f') (s : Stay K T f H f' H') : REn K T H' f' env σ := r.mono0 hp s.toStay0
theorem REn.set (r : REn K T H f env σ) {i : Nat} {d : Dt} {v : V} (h : RV K T H f d v) : REn K T H f (env.set i (some d)) (σ.set i (some v)) := ⟨by rw [List.length_set, List.length_set]; exact r.len, fun j e hj => by
  by_cases q : i = j
  · subst q
    have hl : i < env.length := by
      rcases Nat.lt_or_ge i env.length with g | g
      · exact g
      · rw [List.getElem?_eq_none (by rw [List.length_set]; exact g)] at hj; cases hj
    rw [List.getElem?_set_self hl] at hj
    cases hj
    exact ⟨v, List.getElem?_set_self (by rw [← r.len]; exact hl), h⟩
  · rw [List.getElem?_set_ne q] at hj
    obtain ⟨w, h1, h2⟩ := r.get j e hj
    exact ⟨w, by rw [List.getElem?_set_ne q]; exact h1, h2⟩⟩
theorem REn.wipe1 (r : REn K T H f env σ) {i : Nat} {x : Option V} : REn K T H f (env.set i none) (σ.set i x) := ⟨by rw [List.length_set, List.length_set]; exact r.len, fun j e hj => by
  by_cases q : i = j
  · subst q
    rw [List.getElem?_set] at hj
    split at hj
    · split at hj <;> cases hj
    · exact absurd rfl (by assumption)
  · rw [List.getElem?_set_ne q] at hj
    obtain ⟨w, h1, h2⟩ := r.get j e hj
    exact ⟨w, by rw [List.getElem?_set_ne q]; exact h1, h2⟩⟩
theorem RO.keep0 {a : Addr} {o : Ob} (hp : f <+: f') (s : Stay0 K T f H f' H') (e : H' a = H a) (r : RO K T H f a o) : RO K T H' f' a o := by
  cases o with
  | lst ds => obtain ⟨vs, h1, h2⟩ := r; exact ⟨vs, e.trans h1, h2.mono0 hp s⟩
  | dk kvs => obtain ⟨vs, h1, h2⟩ := r; exact ⟨vs, e.trans h1, h2.mono0 hp s⟩
  | ins c fs => obtain ⟨dx, vs, h1, h2⟩ := r; exact ⟨dx, vs, e.trans h1, h2.mono0 hp s⟩
  | dn kvs => obtain ⟨vs, h1, h2⟩ := r; exact ⟨vs, h1.at e, h2.mono0 hp s⟩
theorem RO.keep {a : Addr} {o : Ob} (hp : f <+: f') (s : Stay K T f H f' H') (e : H' a = H a) (r : RO K T H f a o) : RO K T H' f' a o := r.keep0 hp s.toStay0 e
theorem RO.some {a : Addr} {o : Ob} (r : RO K T H f a o) : ∃ u, H a = some u ∧ (∀ xs, u ≠ .tup xs) ∧ ∀ q w, u ≠ .frz q w := by
  cases o with
  | lst ds => obtain ⟨vs, h1, _⟩ := r; exact ⟨_, h1, fun _ z => HO.noConfusion z, fun _ _ z => HO.noConfusion z⟩
  | dk ds => obtain ⟨vs, h1, _⟩ := r; exact ⟨_, h1, fun _ z => HO.noConfusion z, fun _ _ z => HO.noConfusion z⟩
  | ins c fs => obtain ⟨dx, vs, h1, _⟩ := r; exact ⟨_, h1, fun _ z => HO.noConfusion z, fun _ _ z => HO.noConfusion z⟩
  | dn kvs =>
    obtain ⟨vs, h1, _⟩ := r
    obtain ⟨o, h1⟩ := h1
    exact ⟨_, h1, fun _ z => HO.noConfusion z, fun _ _ z => HO.noConfusion z⟩
theorem RO.stay {a : Addr} {o : Ob} (r : RO K T H f a o) (hm : a ∈ f) (u : HO) : Stay K T f H f (upd H a u) := by
  obtain ⟨w, h, h1, h2⟩ := r.some
  exact Stay.but hm (fun xs e => by rw [h] at e; cases e; exact h1 xs rfl) (fun q v e => by rw [h] at e; cases e; exact h2 q v rfl)
theorem RH.lt (r : RH K T f H st) {i : Nat} {a : Addr} (h : f[i]? = some a) : ∃ o, st[i]? = some o := by
  have hl : i < f.length := by
    rcases Nat.lt_or_ge i f.length with g | g
    · exact g
    · rw [List.getElem?_eq_none g] at h; cases h
  exact ⟨st[i]'(by rw [← r.len]; exact hl), List.getElem?_eq_getElem _⟩
theorem RH.fresh (r : RH K T f H st) {p : Addr} (h : H p = none) : p ∉ f := fun hm => by
  obtain ⟨i, hi⟩ := List.mem_iff_getElem?.mp hm
  obtain ⟨o, ho⟩ := r.lt hi
  obtain ⟨u, hu, _⟩ := (r.obj i o p ho hi).some
  rw [h] at hu; cases hu
theorem RH.free (r : RH K T f H st) {p : Addr} (h : H p = none) : p ∉ f ∧ p ∉ T.rs := ⟨r.fresh h, fun z => by
  obtain ⟨_, u, e⟩ := r.rsv p z
  rw [h] at e; cases e⟩
theorem RH.ne (r : RH K T f H st) {i j : Nat} {a b : Addr} (hi : f[i]? = some a) (hj : f[j]? = some b) (h : i ≠ j) : a ≠ b := fun e => by
  subst e
  obtain ⟨hi1, hi2⟩ := List.getElem?_eq_some_iff.mp hi
  exact h ((List.getElem?_inj hi1 r.nd).mp (hi.trans hj.symm))
theorem RH.new (r : RH K T f H st) {p : Addr} {u : HO} {o : Ob} (h : H p = none) (new : RO K T (upd H p u) (f ++ [p]) p o) : RH K T (f ++ [p]) (upd H p u) (st ++ [o]) := by
  refine ⟨by rw [List.length_append, List.length_append, r.len]; rfl, ?_, fun i w a hi ha => ?_, fun a ha => ?_⟩
  · refine List.nodup_append.mpr ⟨r.nd, by simp, fun x hx y hy e => ?_⟩
    have : y = p := by simpa using hy
    subst this; subst e
    exact r.fresh h hx
  · rcases Nat.lt_trichotomy i st.length with g | g | g
    · rw [List.getElem?_append_left g] at hi
      rw [List.getElem?_append_left (by rw [r.len]; exact g)] at ha
      have hne : a ≠ p := fun e => r.fresh h (by rw [← e]; exact List.mem_iff_getElem?.mpr ⟨i, ha⟩)
      exact (r.obj i w a hi ha).keep (List.prefix_append _ _) (Stay.newA h) (upd_ne hne)
    · subst g
      rw [List.getElem?_append_right (Nat.le_refl _)] at hi
      rw [← r.len, List.getElem?_append_right (Nat.le_refl _)] at ha
      simp at hi ha
      subst hi; subst ha
      exact new
    · rw [List.getElem?_eq_none (by rw [List.length_append]; exact g)] at hi
      cases hi
  · obtain ⟨h1, u', h2⟩ := r.rsv a ha
    have ne : a ≠ p := fun e => by rw [e, h] at h2; cases h2
    refine ⟨fun z => ?_, u', by rw [upd_ne ne]; exact h2⟩
    rcases List.mem_append.mp z with z | z
    · exact h1 z
    · exact ne (by simpa using z)
theorem RH.side0 (rh : RH K T f H st) {p : Addr} {u : HO} (hq : H p = none) : RH K T f (upd H p u) st :=
  ⟨rh.len, rh.nd, fun i o a hi ha => (rh.obj i o a hi ha).keep (List.prefix_refl _) (Stay.new hq) (upd_ne (fun z => rh.fresh hq (by rw [← z]; exact mem_of ha))), fun a ha => ⟨(rh.rsv a ha).1, by
    obtain ⟨_, u', h2⟩ := rh.rsv a ha
    exact ⟨u', by rw [upd_ne (fun e => by rw [e, hq] at h2; cases h2)]; exact h2⟩⟩⟩
theorem RH.put (r : RH K T f H st) {i : Nat} {a : Addr} {u : HO} {o : Ob} (ha : f[i]? = some a) (new : RO K T (upd H a u) f a o) : RH K T f (upd H a u) (st.set i o) := by
  obtain ⟨o0, h0⟩ := r.lt ha
  refine ⟨by rw [List.length_set]; exact r.len, r.nd, fun j w b hj hb => ?_, fun b hb => ⟨(r.rsv b hb).1, by
    obtain ⟨h1, u', h2⟩ := r.rsv b hb
    exact ⟨u', by rw [upd_ne (fun e => h1 (by rw [e]; exact mem_of ha))]; exact h2⟩⟩⟩
  by_cases q : i = j
  · subst q
    rw [List.getElem?_set_self (List.getElem?_eq_some_iff.mp h0).1] at hj
    cases hj
    rw [ha] at hb; cases hb
    exact new
  · rw [List.getElem?_set_ne q] at hj
    exact (r.obj j w b hj hb).keep (List.prefix_refl _) ((r.obj i o0 a h0 ha).stay (List.mem_iff_getElem?.mpr ⟨i, ha⟩) u) (upd_ne (r.ne hb ha (Ne.symm q)))
end

def XR (K : PySem.W.Frag) (T : Tb) (H : Hp) (f : List Addr) (c : Nat) (fs : List (Nat × Dt)) (cls : Value) (d : Option Addr) : Prop :=
  cls = .ref (T.cls c) ∧ ((fs = [] ∧ d = none) ∨ ∃ dd vs, d = some dd ∧ H dd = some (.xd vs) ∧ FR K T H f fs vs)

section
variable (K : PySem.W.Frag) (T : Tb)
abbrev Rel (α β : Type) := Hp → List Addr → α → β → Prop
def Post {α β : Type} (rel : Rel α β) (W : Value → Option Addr → Hp → Prop) (f : List Addr) (H : Hp) (r : Re α) (Q : β → Hp → Prop) : Prop := match r with
  | .ok a st' => ∀ f' H' b, f <+: f' → Stay K T f H f' H' → RH K T f' H' st' → rel H' f' a b → Q b H'
  | .exc c fs st' => ∀ f' H' cls d, f <+: f' → Stay K T f H f' H' → RH K T f' H' st' → XR K T H' f' c fs cls d → W cls d H'
  | .stuck => False
def PostS (W : WX) (f : List Addr) (H : Hp) (r : Rs) (E : Ends) : Prop := match r with
  | .nx env' st' => ∀ f' H' σ', f <+: f' → Stay K T f H f' H' → RH K T f' H' st' → REn K T H' f' env' σ' → E.nx σ' H'
  | .bk env' st' => ∀ f' H' σ', f <+: f' → Stay K T f H f' H' → RH K T f' H' st' → REn K T H' f' env' σ' → E.bk σ' H'
  | .ct env' st' => ∀ f' H' σ', f <+: f' → Stay K T f H f' H' → RH K T f' H' st' → REn K T H' f' env' σ' → E.ct σ' H'
  | .rt d st' => ∀ f' H' v, f <+: f' → Stay K T f H f' H' → RH K T f' H' st' → RV K T H' f' d v → E.rt v H'
  | .ex env' c fs st' => ∀ f' H' σ' cls d, f <+: f' → Stay K T f H f' H' → RH K T f' H' st' → REn K T H' f' env' σ' → XR K T H' f' c fs cls d → W cls d σ' H'
  | .stuck => False
def tG {α β : Type} (rel : Rel α β) (W : WX) (m : M α) : L2.St → Hp → (β → Hp → Prop) → Prop := fun σ H Q =>
  ∃ f env st, REn K T H f env σ ∧ RH K T f H st ∧ Post K T rel (fun c d H' => W c d σ H') f H (m env st) Q
def sG (W : WX) (m : MS) : TS := fun E σ H => ∃ f env st, REn K T H f env σ ∧ RH K T f H st ∧ PostS K T W f H (m env st) E
end
abbrev rV (K : PySem.W.Frag) (T : Tb) : Rel Dt V := RV K T
abbrev rVs (K : PySem.W.Frag) (T : Tb) : Rel (List Dt) (List V) := RVs K T
abbrev rB : Rel Bool Bool := fun _ _ a b => a = b
abbrev IE (X : Cx) (T : Tb) (W : WX) (e : Expr) (m : ME) : Prop := PE X e (tG X.K T (rV X.K T) W m)
abbrev IT (X : Cx) (T : Tb) (W : WX) (e : Expr) (m : MT) : Prop := PT X e (tG X.K T rB W m)
abbrev IW (X : Cx) (T : Tb) (W : WX) (e : Expr) (m : MT) : Prop := PW X e (tG X.K T rB W m)
abbrev IA (X : Cx) (T : Tb) (W : WX) (es : List Expr) (m : MA) : Prop := PA X es (tG X.K T (rVs X.K T) W m)
abbrev IS (X : Cx) (T : Tb) (W : WX) (s : Stmt) (m : MS) : Prop := PS X s (sG X.K T W m)
abbrev ISs (X : Cx) (T : Tb) (W : WX) (s : List Stmt) (m : MS) : Prop := PSs X s (sG X.K T W m)

theorem PEw {X : Cx} {e : Expr} {t t' : TE} (h : PE X e t) (w : ∀ σ H Q, t' σ H Q → t σ H Q) : PE X e t' := ⟨fun pins s σ H Q I q => h.run pins s σ H Q I (w σ H Q q)⟩
theorem PTw {X : Cx} {e : Expr} {t t' : TT} (h : PT X e t) (w : ∀ σ H Q, t' σ H Q → t σ H Q) : PT X e t' := ⟨fun pins s σ H Q I q => h.run pins s σ H Q I (w σ H Q q)⟩
theorem PWw {X : Cx} {e : Expr} {t t' : TT} (h : PW X e t) (w : ∀ σ H Q, t' σ H Q → t σ H Q) : PW X e t' := ⟨fun wh pins s σ H Q I q => h.run wh pins s σ H Q I (w σ H Q q)⟩
theorem PAw {X : Cx} {e : List Expr} {t t' : TA} (h : PA X e t) (w : ∀ σ H Q, t' σ H Q → t σ H Q) : PA X e t' := ⟨fun pos pins s σ H Q I q => h.run pos pins s σ H Q I (w σ H Q q)⟩
theorem PSw {X : Cx} {e : Stmt} {t t' : TS} (h : PS X e t) (w : ∀ E σ H, t' E σ H → t E σ H) : PS X e t' := ⟨fun pins s σ H E I q => h.run pins s σ H E I (w E σ H q)⟩
theorem PSsw {X : Cx} {e : List Stmt} {t t' : TS} (h : PSs X e t) (w : ∀ E σ H, t' E σ H → t E σ H) : PSs X e t' := ⟨fun pins s σ H E I q => h.run pins s σ H E I (w E σ H q)⟩

section
variable {K : PySem.W.Frag} {T : Tb} {α β γ δ : Type} {rel : Rel α β} {rel2 : Rel γ δ} {W : Value → Option Addr → Hp → Prop} {f f1 : List Addr} {H H1 : Hp}
theorem Post.mono {r : Re α} {Q : β → Hp → Prop} (h : Post K T rel W f H r Q) (hp : f <+: f1) (s : Stay K T f H f1 H1) : Post K T rel W f1 H1 r Q := by
  cases r with
  | ok a st => exact fun f' H' b p q => h f' H' b (hp.trans p) (s.trans q)
  | exc c fs st => exact fun f' H' cls d p q => h f' H' cls d (hp.trans p) (s.trans q)
  | stuck => exact h
theorem Post.bind {r : Re α} {g : α → Sto → Re γ} {Q : δ → Hp → Prop} {Q1 : β → Hp → Prop} (h : Post K T rel2 W f H (r.bind g) Q)
    (k : ∀ a st1 f1 H1 b, f <+: f1 → Stay K T f H f1 H1 → RH K T f1 H1 st1 → rel H1 f1 a b → Post K T rel2 W f1 H1 (g a st1) Q → Q1 b H1) : Post K T rel W f H r Q1 := by
  cases r with
  | ok a st => exact fun f' H' b p q rh rb => k a st f' H' b p q rh rb (Post.mono (r := g a st) h p q)
  | exc c fs st => exact h
  | stuck => exact h
theorem Post.now {a : α} {b : β} {st : Sto} {Q : β → Hp → Prop} (h : Post K T rel W f H (.ok a st) Q) (rh : RH K T f H st) (rb : rel H f a b) : Q b H := h f H b (List.prefix_refl _) Stay.refl rh rb
theorem Post.new {a : α} {b : β} {st : Sto} {p : Addr} {u : HO} {Q : β → Hp → Prop} (h : Post K T rel W f H (.ok a st) Q) (hp : H p = none) (rh : RH K T (f ++ [p]) (upd H p u) st) (rb : rel (upd H p u) (f ++ [p]) a b) : Q b (upd H p u) :=
  h _ _ b (List.prefix_append _ _) (Stay.newA hp) rh rb
theorem PostS.mono {W : WX} {r : Rs} {E : Ends} (h : PostS K T W f H r E) (hp : f <+: f1) (s : Stay K T f H f1 H1) : PostS K T W f1 H1 r E := by
  cases r with
  | nx e st => exact fun f' H' b p q => h f' H' b (hp.trans p) (s.trans q)
  | bk e st => exact fun f' H' b p q => h f' H' b (hp.trans p) (s.trans q)
  | ct e st => exact fun f' H' b p q => h f' H' b (hp.trans p) (s.trans q)
  | rt e st => exact fun f' H' b p q => h f' H' b (hp.trans p) (s.trans q)
  | ex e c fs st => exact fun f' H' σ' cls d p q => h f' H' σ' cls d (hp.trans p) (s.trans q)
  | stuck => exact h
theorem PostS.on {W : WX} {env : Lo} {σ : L2.St} {r : Re α} {g : α → Sto → Rs} {E : Ends} {Q1 : β → Hp → Prop} (re : REn K T H f env σ) (h : PostS K T W f H (r.on env g) E)
    (k : ∀ a st1 f1 H1 b, f <+: f1 → Stay K T f H f1 H1 → RH K T f1 H1 st1 → rel H1 f1 a b → REn K T H1 f1 env σ → PostS K T W f1 H1 (g a st1) E → Q1 b H1) : Post K T rel (fun c d H' => W c d σ H') f H r Q1 := by
  cases r with
  | ok a st => exact fun f' H' b p q rh rb => k a st f' H' b p q rh rb (re.mono p q) (PostS.mono (r := g a st) h p q)
  | exc c fs st => exact fun f' H' cls d p q rh xr => h f' H' σ cls d p q rh (re.mono p q) xr
  | stuck => exact h
end
end LT
set_option Elab.async false
set_option linter.all false
set_option maxRecDepth 100000
namespace LT
open PySem PySem.Spec PyProof.Rows L2
mutual
def clD (n : Nat) : Dt → Bool
  | .tup xs => clL n xs
  | .rl xs => clL n xs
  | .li xs => clL n xs
  | .ob _ fs => clF n fs
  | .dv kvs => clK n kvs
  | .ref i => decide (i < n)
  | .non => true
  | .bl _ => true
  | .int _ => true
  | .str _ => true
  | .cl _ => true
  | .dn kvs => clK n kvs
  | .er _ fs => clF n fs
def clL (n : Nat) : List Dt → Bool
  | [] => true
  | d :: r => clD n d && clL n r
def clF (n : Nat) : List (Nat × Dt) → Bool
  | [] => true
  | (_, d) :: r => clD n d && clF n r
def clK (n : Nat) : List (Dt × Dt) → Bool
  | [] => true
  | (k, d) :: r => clD n k && clD n d && clK n r
end
theorem clL_mem {n : Nat} : ∀ {xs : List Dt}, clL n xs = true ↔ ∀ d ∈ xs, clD n d = true
  | [] => by simp [clL]
  | d :: r => by simp [clL, clL_mem (xs := r)]
mutual
theorem clD_mono {m n : Nat} (h : m ≤ n) : ∀ {d : Dt}, clD m d = true → clD n d = true
  | .tup xs, q => by simp only [clD] at q ⊢; exact clL_mono h q
  | .rl xs, q => by simp only [clD] at q ⊢; exact clL_mono h q
  | .li xs, q => by simp only [clD] at q ⊢; exact clL_mono h q
  | .ob _ fs, q => by simp only [clD] at q ⊢; exact clF_mono h q
  | .dv kvs, q => by simp only [clD] at q ⊢; exact clK_mono h q
  | .ref i, q => by simp only [clD, decide_eq_true_eq] at q ⊢; omega
  | .non, _ => rfl
  | .bl _, _ => rfl
  | .int _, _ => rfl
  | .str _, _ => rfl
  | .cl _, _ => rfl
  | .dn kvs, q => by simp only [clD] at q ⊢; exact clK_mono h q
  | .er _ fs, q => by simp only [clD] at q ⊢; exact clF_mono h q
theorem clL_mono {m n : Nat} (h : m ≤ n) : ∀ {d : List Dt}, clL m d = true → clL n d = true
  | [], _ => rfl
  | d :: r, q => by simp only [clL, Bool.and_eq_true] at q ⊢; exact ⟨clD_mono h q.1, clL_mono h q.2⟩
theorem clF_mono {m n : Nat} (h : m ≤ n) : ∀ {d : List (Nat × Dt)}, clF m d = true → clF n d = true
  | [], _ => rfl
  | (_, d) :: r, q => by simp only [clF, Bool.and_eq_true] at q ⊢; exact ⟨clD_mono h q.1, clF_mono h q.2⟩
theorem clK_mono {m n : Nat} (h : m ≤ n) : ∀ {d : List (Dt × Dt)}, clK m d = true → clK n d = true
  | [], _ => rfl
  | (k, d) :: r, q => by simp only [clK, Bool.and_eq_true] at q ⊢; exact ⟨⟨clD_mono h q.1.1, clD_mono h q.1.2⟩, clK_mono h q.2⟩
end
structure View (K : PySem.W.Frag) (T : Tb) (f : List Addr) (H : Hp) (T' : Tb) (f' : List Addr) (H' : Hp) (n : Nat) : Prop where
  b : T'.b = T.b
  i : ∀ i a, i < n → f[i]? = some a → f'[i]? = some a
  t : ∀ a xs, SqT K H a xs → SqT K H' a xs
  l : ∀ a xs, SqF K H a xs → SqF K H' a xs
  o : ∀ a u, a ∉ f → a ∉ T.rs → H a = some u → H' a = some u ∧ a ∉ f' ∧ a ∉ T'.rs
section
variable {K : PySem.W.Frag} {T T' : Tb} {H H' : Hp} {f f' : List Addr} {n : Nat}
theorem View.oN (s : View K T f H T' f' H' n) {hs : NK → Int} {a : Addr} {xs : List NE} (h1 : a ∉ f) (h2 : a ∉ T.rs) (h : ND hs H a xs) : ND hs H' a xs ∧ a ∉ f' ∧ a ∉ T'.rs := by
  obtain ⟨o, h⟩ := h
  exact ⟨⟨o, (s.o _ _ h1 h2 h).1⟩, (s.o _ _ h1 h2 h).2⟩
theorem FR.cons' {i : Nat} {x : Str} {d : Dt} {v : V} {fs : List (Nat × Dt)} {vs : List (Str × V)} (e : T.fld i = x) (h : RV K T H f d v) (t : FR K T H f fs vs) : FR K T H f ((i, d) :: fs) ((x, v) :: vs) := e ▸ FR.cons h t
theorem view_of {rs : List Addr} {m : Nat} (hp : f <+: f') (s : Stay0 K T f H f' H') (hr : ∀ a, a ∈ rs → a ∈ T.rs ∨ H a = none) : View K T f H ⟨T.b, rs⟩ f' H' m :=
  ⟨rfl, fun i a _ h => get_pre hp h, s.t, s.l, fun a u h1 h2 e => ⟨s.o a u h1 h2 e, s.off h1 e, fun z => by
    rcases hr a z with q | q
    · exact h2 q
    · rw [e] at q; cases q⟩⟩
mutual
theorem RV.view (s : View K T f H T' f' H' n) : ∀ {d : Dt} {v : V}, clD n d = true → RV K T H f d v → RV K T' H' f' d v
  | _, _, _, .non => .non
  | _, _, _, .bl b => .bl b
  | _, _, _, .int i => .int i
  | _, _, _, .str x => .str x
  | _, _, q, .tup h r => .tup (s.t _ _ h) (RVs.view s (by simpa only [clD] using q) r)
  | _, _, q, .rl h r => .rl (s.l _ _ h) (RVs.view s (by simpa only [clD] using q) r)
  | _, _, q, .li hf h r => .li (s.o _ _ hf.1 hf.2 h).2 (s.o _ _ hf.1 hf.2 h).1 (RVs.view s (by simpa only [clD] using q) r)
  | _, _, q, .ob hf h r => .ob (s.o _ _ hf.1 hf.2 h).2 (by have := (s.o _ _ hf.1 hf.2 h).1; rwa [Tb.cls, ← s.b] at this) (FR.view s (by simpa only [clD] using q) r)
  | _, _, q, .dv hf h r => .dv (s.o _ _ hf.1 hf.2 h).2 (s.o _ _ hf.1 hf.2 h).1 (DR.view s (by simpa only [clD] using q) r)
  | _, _, q, .ref h => .ref (s.i _ _ (by simpa only [clD, decide_eq_true_eq] using q) h)
  | _, _, _, .cl c => by
    have e : T.cls c = T'.cls c := by rw [Tb.cls, Tb.cls, s.b]
    rw [e]
    exact .cl c
  | _, _, q, .dn hf h r => by
    have z := s.oN hf.1 hf.2 h
    exact .dn z.2 (by rw [s.b]; exact z.1) (NR.view s (by simpa only [clD] using q) r)
  | _, _, q, .er hf hx h h2 r => .er (s.o _ _ hf.1 hf.2 h).2 (s.o _ _ hx.1 hx.2 h2).2 (by have := (s.o _ _ hf.1 hf.2 h).1; rwa [Tb.cls, ← s.b] at this) (s.o _ _ hx.1 hx.2 h2).1 (FR.view s (by simpa only [clD] using q) r)
  | _, _, q, .er0 hf h => .er0 (s.o _ _ hf.1 hf.2 h).2 (by have := (s.o _ _ hf.1 hf.2 h).1; rwa [Tb.cls, ← s.b] at this)
theorem RVs.view (s : View K T f H T' f' H' n) : ∀ {ds : List Dt} {vs : List V}, clL n ds = true → RVs K T H f ds vs → RVs K T' H' f' ds vs
  | _, _, _, .nil => .nil
  | _, _, q, .cons h t => by
    simp only [clL, Bool.and_eq_true] at q
    exact .cons (RV.view s q.1 h) (RVs.view s q.2 t)
theorem FR.view (s : View K T f H T' f' H' n) : ∀ {fs : List (Nat × Dt)} {vs : List (Str × V)}, clF n fs = true → FR K T H f fs vs → FR K T' H' f' fs vs
  | _, _, _, .nil => .nil
  | _, _, q, .cons h t => by
    simp only [clF, Bool.and_eq_true] at q
    exact FR.cons' (by rw [Tb.fld, Tb.fld, s.b]) (RV.view s q.1 h) (FR.view s q.2 t)
theorem DR.view (s : View K T f H T' f' H' n) : ∀ {fs : List (Dt × Dt)} {vs : List (Key × V)}, clK n fs = true → DR K T H f fs vs → DR K T' H' f' fs vs
  | _, _, _, .nil => .nil
  | _, _, q, .cons hk h t => by
    simp only [clK, Bool.and_eq_true] at q
    exact .cons hk (RV.view s q.1.2 h) (DR.view s q.2 t)
theorem NR.view (s : View K T f H T' f' H' n) : ∀ {fs : List (Dt × Dt)} {vs : List NE}, clK n fs = true → NR K T H f fs vs → NR K T' H' f' fs vs
  | _, _, _, .nil => .nil
  | _, _, q, .cons hk hn h t => by
    simp only [clK, Bool.and_eq_true] at q
    exact .cons (RV.view s q.1.1 hk) hn (RV.view s q.1.2 h) (NR.view s q.2 t)
end
mutual
theorem RV.closed : ∀ {d : Dt} {v : V}, RV K T H f d v → clD f.length d = true
  | _, _, .non => rfl
  | _, _, .bl b => rfl
  | _, _, .int i => rfl
  | _, _, .str x => rfl
  | _, _, .tup h r => by simp only [clD]; exact RVs.closed r
  | _, _, .rl h r => by simp only [clD]; exact RVs.closed r
  | _, _, .li _ h r => by simp only [clD]; exact RVs.closed r
  | _, _, .ob _ h r => by simp only [clD]; exact FR.closed r
  | _, _, .dv _ h r => by simp only [clD]; exact DR.closed r
  | _, _, .cl c => rfl
  | _, _, .dn _ h r => by simp only [clD]; exact NR.closed r
  | _, _, .er _ _ _ _ r => by simp only [clD]; exact FR.closed r
  | _, _, .er0 _ _ => by simp only [clD, clF]
  | _, _, .ref h => by
    simp only [clD, decide_eq_true_eq]
    exact (List.getElem?_eq_some_iff.mp h).1
theorem RVs.closed : ∀ {ds : List Dt} {vs : List V}, RVs K T H f ds vs → clL f.length ds = true
  | _, _, .nil => rfl
  | _, _, .cons h t => by simp only [clL, Bool.and_eq_true]; exact ⟨RV.closed h, RVs.closed t⟩
theorem FR.closed : ∀ {fs : List (Nat × Dt)} {vs : List (Str × V)}, FR K T H f fs vs → clF f.length fs = true
  | _, _, .nil => rfl
  | _, _, .cons h t => by simp only [clF, Bool.and_eq_true]; exact ⟨RV.closed h, FR.closed t⟩
theorem DR.closed : ∀ {fs : List (Dt × Dt)} {vs : List (Key × V)}, DR K T H f fs vs → clK f.length fs = true
  | _, _, .nil => rfl
  | _, _, @DR.cons _ _ _ _ k _ _ _ _ _ hk h t => by
    simp only [clK, Bool.and_eq_true]
    refine ⟨⟨?_, RV.closed h⟩, DR.closed t⟩
    cases k <;> first | rfl | exact hk.elim
theorem NR.closed : ∀ {fs : List (Dt × Dt)} {vs : List NE}, NR K T H f fs vs → clK f.length fs = true
  | _, _, .nil => rfl
  | _, _, .cons hk hn h t => by
    simp only [clK, Bool.and_eq_true]
    exact ⟨⟨RV.closed hk, RV.closed h⟩, NR.closed t⟩
end
def clO (n : Nat) : Ob → Bool
  | .lst xs => clL n xs
  | .dk kvs => clK n kvs
  | .ins _ fs => clF n fs
  | .dn kvs => clK n kvs
theorem RO.view {a : Addr} {o : Ob} (s : View K T f H T' f' H' n) (e : H' a = H a) (q : clO n o = true) (r : RO K T H f a o) : RO K T' H' f' a o := by
  cases o with
  | lst ds => obtain ⟨vs, h1, h2⟩ := r; exact ⟨vs, e.trans h1, h2.view s q⟩
  | dk kvs => obtain ⟨vs, h1, h2⟩ := r; exact ⟨vs, e.trans h1, h2.view s q⟩
  | ins c fs => obtain ⟨dx, vs, h1, h2⟩ := r; exact ⟨dx, vs, by rw [Tb.cls, s.b]; exact e.trans h1, h2.view s q⟩
  | dn kvs => obtain ⟨vs, h1, h2⟩ := r; exact ⟨vs, by rw [s.b]; exact h1.at e, h2.view s q⟩
theorem RO.closed {a : Addr} {o : Ob} (r : RO K T H f a o) : clO f.length o = true := by
  cases o with
  | lst ds => obtain ⟨vs, h1, h2⟩ := r; exact h2.closed
  | dk kvs => obtain ⟨vs, h1, h2⟩ := r; exact h2.closed
  | ins c fs => obtain ⟨dx, vs, h1, h2⟩ := r; exact h2.closed
  | dn kvs => obtain ⟨vs, h1, h2⟩ := r; exact h2.closed
theorem RH.view {st : Sto} (rh : RH K T f H st) (s : View K T f H T' f H' f.length) (e : ∀ a, a ∈ f → H' a = H a) (hr : ∀ a, a ∈ T'.rs → a ∉ f ∧ ∃ u, H' a = some u) : RH K T' f H' st :=
  ⟨rh.len, rh.nd, fun i o a ho ha => (rh.obj i o a ho ha).view s (e a (mem_of ha)) (rh.obj i o a ho ha).closed, hr⟩
end
end LT
set_option Elab.async false
set_option linter.all false
set_option maxRecDepth 100000
namespace LT
open PySem PySem.Spec PyProof.Rows L2

def lim : Nat := 1000000
theorem lim_le {n : Nat} (h : n ≤ lim) : n ≤ sizeLine := Nat.le_trans h (by decide)
theorem lim_lt {n : Nat} (h : n < lim) : n < sizeLine := Nat.lt_of_lt_of_le h (by decide)
def mVar (i : Nat) : ME := fun env st => match env[i]? with
  | some (some d) => .ok d st
  | _ => .stuck
def mC (d : Dt) : ME := fun _ st => .ok d st
def mBin (g : Dt → Dt → Sto → Re Dt) (a b : ME) : ME := fun env st => (a env st).bind fun x st1 => (b env st1).bind fun y st2 => g x y st2
def mUn (g : Dt → Sto → Re Dt) (a : ME) : ME := fun env st => (a env st).bind fun x st1 => g x st1
def mNil : MA := fun _ st => .ok [] st
def mCons (a : ME) (r : MA) : MA := fun env st => (a env st).bind fun x st1 => (r env st1).bind fun xs st2 => .ok (x :: xs) st2
def mCB (g : List Dt → Sto → Re Dt) (a : MA) : ME := fun env st => (a env st).bind g
def mTup (a : MA) : ME := fun env st => (a env st).bind fun xs st1 => if xs.length ≤ lim then .ok (.tup xs) st1 else .stuck
def mLst (a : MA) : ME := fun env st => (a env st).bind fun xs st1 => if xs.length ≤ lim then .ok (.ref st1.length) (st1 ++ [.lst xs]) else .stuck
def isB : Dt → Sto → Re Bool
  | .bl b, st => .ok b st
  | _, _ => .stuck
def mB (a : ME) : MT := fun env st => (a env st).bind isB
def truD : Dt → Sto → Option Bool
  | .non, _ => some false
  | .bl b, _ => some b
  | .int i, _ => some (i != 0)
  | .str s, _ => if s.length ≤ lim then some (!s.isEmpty) else none
  | .tup xs, _ => some (!xs.isEmpty)
  | .rl xs, _ => some (!xs.isEmpty)
  | .li xs, _ => some (!xs.isEmpty)
  | .dv xs, _ => some (!xs.isEmpty)
  | .ob _ _, _ => none
  | .cl _, _ => none
  | .dn _, _ => none
  | .er _ _, _ => none
  | .ref i, st => match st[i]? with
    | some (.lst xs) => some (!xs.isEmpty)
    | some (.dk xs) => some (!xs.isEmpty)
    | _ => none
def mTru (a : ME) : MT := fun env st => (a env st).bind fun x st1 => match truD x st1 with
  | some b => .ok b st1
  | none => .stuck
def mAnd (a b : MT) : MT := fun env st => (a env st).bind fun x st1 => if x then b env st1 else .ok false st1
def mOr (a b : MT) : MT := fun env st => (a env st).bind fun x st1 => if x then .ok true st1 else b env st1
def mNot (a : MT) : MT := fun env st => (a env st).bind fun x st1 => .ok (!x) st1
def mAndV (a b : ME) : ME := fun env st => (a env st).bind fun x st1 => match x with
  | .bl true => b env st1
  | .bl false => .ok (.bl false) st1
  | _ => .stuck
def mOrV (a b : ME) : ME := fun env st => (a env st).bind fun x st1 => match x with
  | .bl true => .ok (.bl true) st1
  | .bl false => b env st1
  | _ => .stuck
def mNotV (a : ME) : ME := fun env st => (a env st).bind fun x st1 => match x with
  | .bl b => .ok (.bl (!b)) st1
  | _ => .stuck
def mIf (t : MT) (a b : ME) : ME := fun env st => (t env st).bind fun x st1 => if x then a env st1 else b env st1
section
variable {X : Cx} {T : Tb} {W : WX} {a b e : Expr} {es : List Expr} {pos : Pos} {ma mb me : ME} {ms : MA} {ta tb : MT}
theorem RV.str' {K : PySem.W.Frag} {H : Hp} {f : List Addr} {x : Str} {s : List Nat} (h : x.cps.toList = s) : RV K T H f (.str s) (.str x) := h ▸ RV.str x
theorem ie_var (i : Nat) {x : Str} (hN : X.N[i]? = some x := by rfl) (hv : Vis X.env.scope x := by first | exact Or.inl rfl | exact Or.inr (Or.inl rfl) | exact Or.inr (Or.inr rfl)) (hd : (x == ("__debug__" : Str)) = false := by decide)
    (hcd : (x == ("__classdict__" : Str)) = false := by decide) : IE X T W (.Name x pos) (mVar i) := PEw (pe_var hN hv hd hcd) fun σ H Q ⟨f, env, st, re, rh, p⟩ => by
  unfold mVar at p
  split at p
  · rename_i d hd
    obtain ⟨v, h1, h2⟩ := re.get _ _ hd
    exact ⟨v, h1, p.now rh h2⟩
  · exact p.elim
theorem ie_int {i : Int} {j} : IE X T W (.Constant (.int i) j pos) (mC (.int i)) := PEw pe_int fun σ H Q ⟨f, env, st, re, rh, p⟩ => p.now rh (.int i)
theorem ie_bl {b : Bool} {j} : IE X T W (.Constant (.bool b) j pos) (mC (.bl b)) := PEw pe_bl fun σ H Q ⟨f, env, st, re, rh, p⟩ => p.now rh (.bl b)
theorem ie_non {j} : IE X T W (.Constant .none j pos) (mC .non) := PEw pe_non fun σ H Q ⟨f, env, st, re, rh, p⟩ => p.now rh .non
theorem ie_str {x : Str} {j} {s : List Nat} (h : x.cps.toList = s) : IE X T W (.Constant (.str x) j pos) (mC (.str s)) := PEw pe_str fun σ H Q ⟨f, env, st, re, rh, p⟩ => p.now rh (.str' h)

def Snd2 (K : PySem.W.Frag) (T : Tb) (r : R2) (g : Dt → Dt → Sto → Re Dt) : Prop := ∀ (f : List Addr) (H : Hp) (st : Sto) (x y : Dt) (vx vy : V) (Wx : Value → Option Addr → Hp → Prop) (Q : VK),
  RH K T f H st → RV K T H f x vx → RV K T H f y vy → Post K T (rV K T) Wx f H (g x y st) Q → r vx vy H Q
theorem ev2 {r : R2} {g : Dt → Dt → Sto → Re Dt} (hg : Snd2 X.K T r g) {σ : L2.St} {H : Hp} {Q : VK} (h : tG X.K T (rV X.K T) W (mBin g ma mb) σ H Q) : tOp r (tG X.K T (rV X.K T) W ma) (tG X.K T (rV X.K T) W mb) σ H Q := by
  obtain ⟨f, env, st, re, rh, p⟩ := h
  exact ⟨f, env, st, re, rh, p.bind fun x st1 f1 H1 vx hp s rh1 rx p1 => ⟨f1, env, st1, re.mono hp s, rh1, p1.bind fun y st2 f2 H2 vy hp2 s2 rh2 ry p2 => hg f2 H2 st2 x y vx vy _ _ rh2 (rx.mono hp2 s2) ry p2⟩⟩
theorem ie_bin {op : Operator} {r : R2} {g : Dt → Dt → Sto → Re Dt} (ho : OpR X (binaryOp op) r) (hg : Snd2 X.K T r g) (ha : IE X T W a ma) (hb : IE X T W b mb) : IE X T W (.BinOp a op b pos) (mBin g ma mb) := PEw (pe_op ho ha hb) fun _ _ _ => ev2 hg
theorem ie_cmp {op : CmpOp} {r : R2} {g : Dt → Dt → Sto → Re Dt} (ho : OpR X (compareOp op) r) (hg : Snd2 X.K T r g) (ha : IE X T W a ma) (hb : IE X T W b mb) (hm : behindInMarks op b = false) : IE X T W (.Compare a [op] [b] pos) (mBin g ma mb) := PEw (pe_cmpR ho ha hb hm) fun _ _ _ => ev2 hg
theorem ie_ix {r : R2} {g : Dt → Dt → Sto → Re Dt} (hr : IxR X r) (hg : Snd2 X.K T r g) (ha : IE X T W a ma) (hb : IE X T W b mb) (hs : PlainIx b := by intro _ _; rfl) : IE X T W (.Subscript a b pos) (mBin g ma mb) := PEw (pe_ix hr ha hb hs) fun _ _ _ => ev2 hg
def Snd1 (K : PySem.W.Frag) (T : Tb) (r : V → Hp → VK → Prop) (g : Dt → Sto → Re Dt) : Prop := ∀ (f : List Addr) (H : Hp) (st : Sto) (x : Dt) (vx : V) (Wx : Value → Option Addr → Hp → Prop) (Q : VK),
  RH K T f H st → RV K T H f x vx → Post K T (rV K T) Wx f H (g x st) Q → r vx H Q
theorem ie_un {op : UnaryOp} {r : V → Hp → VK → Prop} {g : Dt → Sto → Re Dt} (ho : UnR X (unaryOp op) r) (hg : Snd1 X.K T r g) (ha : IE X T W a ma) : IE X T W (.UnaryOp op a pos) (mUn g ma) := PEw (pe_un ho ha) fun σ H Q ⟨f, env, st, re, rh, p⟩ =>
  ⟨f, env, st, re, rh, p.bind fun x st1 f1 H1 vx hp s rh1 rx p1 => hg f1 H1 st1 x vx _ _ rh1 rx p1⟩
theorem ia_nil : IA X T W [] mNil := PAw pa_nil fun σ H Q ⟨f, env, st, re, rh, p⟩ => p.now rh .nil
theorem ia_cons (ha : IE X T W e me) (hr : IA X T W es ms) (hs : starEach (e :: es) X.env = (false, eval e X.env) :: starEach es X.env := by rfl) : IA X T W (e :: es) (mCons me ms) := PAw (pa_cons ha hr hs) fun σ H Q ⟨f, env, st, re, rh, p⟩ =>
  ⟨f, env, st, re, rh, p.bind fun x st1 f1 H1 vx hp s rh1 rx p1 => ⟨f1, env, st1, re.mono hp s, rh1, p1.bind fun y st2 f2 H2 vy hp2 s2 rh2 ry p2 => p2.now rh2 (RVs.cons (rx.mono hp2 s2) ry)⟩⟩
theorem ie_tup {k} (h : IA X T W es ms) : IE X T W (.Tuple es k pos) (mTup ms) := PEw (pe_tup h) fun σ H Q ⟨f, env, st, re, rh, p⟩ =>
  ⟨f, env, st, re, rh, p.bind fun x st1 f1 H1 vx hp s rh1 rx p1 => by
    split at p1
    · rename_i hl
      refine ⟨by rw [← rx.len]; exact lim_le hl, fun q hq => ?_⟩
      exact p1 f1 _ _ (List.prefix_refl _) (Stay.new hq) (rh1.side0 hq)
        (.tup (.inl (.inl upd_same)) (rx.mono (List.prefix_refl _) (Stay.new hq)))
    · exact p1.elim⟩
theorem RH.side {K : PySem.W.Frag} {f : List Addr} {H : Hp} {st : Sto} {p : Addr} {u : HO} (rh : RH K T f H st) (hq : H p = none) : RH K T f (upd H p u) st := rh.side0 hq
theorem ie_lst (h : IA X T W es ms) : IE X T W (.List es pos) (mLst ms) := PEw (pe_lst h) fun σ H Q ⟨f, env, st, re, rh, p⟩ =>
  ⟨f, env, st, re, rh, p.bind fun x st1 f1 H1 vx hp s rh1 rx p1 => by
    split at p1
    · rename_i hl
      refine ⟨by rw [← rx.len]; exact lim_le hl, fun q hq => p1.new hq (rh1.new hq ⟨_, upd_same, rx.mono (List.prefix_append _ _) (Stay.newA hq)⟩) (.ref ?_)⟩
      rw [← rh1.len, List.getElem?_append_right (Nat.le_refl _), Nat.sub_self]
      rfl
    · exact p1.elim⟩
theorem it_val (h : IE X T W e me) (he : ∀ whole, isTrue e X.env whole = (do let v ← whole; standAt e.pos; holding [v] (truthy v)) := by intro _; rfl) : IT X T W e (mB me) := PTw (pt_val h he) fun σ H Q ⟨f, env, st, re, rh, p⟩ =>
  ⟨f, env, st, re, rh, p.bind fun x st1 f1 H1 vx hp s rh1 rx p1 => by
    cases rx with
    | bl b => exact ⟨b, rfl, p1.now rh1 rfl⟩
    | _ => exact p1.elim⟩
theorem it_cmp {op : CmpOp} {r : R2} {g : Dt → Dt → Sto → Re Dt} (ho : OpR X (compareOp op) r) (hg : Snd2 X.K T r g) (ha : IE X T W a ma) (hb : IE X T W b mb) (hm : behindInMarks op b = false) : IT X T W (.Compare a [op] [b] pos) (mB (mBin g ma mb)) := PTw (pt_cmpR ho ha hb hm) fun σ H Q ⟨f, env, st, re, rh, p⟩ => by
  have p' : Post X.K T rB (fun c d H' => W c d σ H') f H ((ma env st).bind fun x st1 => (mb env st1).bind fun y st2 => (g x y st2).bind isB) Q := by
    unfold mB mBin at p
    simp only [Re.bind_assoc] at p
    exact p
  exact ⟨f, env, st, re, rh, p'.bind fun x st1 f1 H1 vx hp s rh1 rx p1 => ⟨f1, env, st1, re.mono hp s, rh1, p1.bind fun y st2 f2 H2 vy hp2 s2 rh2 ry p2 => hg f2 H2 st2 x y vx vy _ _ rh2 (rx.mono hp2 s2) ry (p2.bind fun z st3 f3 H3 vz hp3 s3 rh3 rz p3 => by
    cases rz with
    | bl b => exact ⟨b, rfl, p3.now rh3 rfl⟩
    | _ => exact p3.elim)⟩⟩
theorem iw_or1 (ha : IT X T W a ta) : IW X T W (.BoolOp .Or [a] pos) ta := pw_or1 ha
theorem ev_or {σ : L2.St} {H : Hp} {Q : Bool → Hp → Prop} (h : tG X.K T rB W (mOr ta tb) σ H Q) : tOr (tG X.K T rB W ta) (tG X.K T rB W tb) σ H Q := by
  obtain ⟨f, env, st, re, rh, p⟩ := h
  refine ⟨f, env, st, re, rh, p.bind fun x st1 f1 H1 vx hp s rh1 rx p1 => ?_⟩
  cases rx
  cases x with
  | true => exact iteT (p1.now rh1 rfl)
  | false => exact iteF ⟨f1, env, st1, re.mono hp s, rh1, p1⟩
theorem iw_or {rest : List Expr} (ha : IT X T W a ta) (hb : IW X T W (.BoolOp .Or (b :: rest) pos) tb) : IW X T W (.BoolOp .Or (a :: b :: rest) pos) (mOr ta tb) := PWw (pw_or ha hb) fun _ _ _ => ev_or
theorem it_w (h : IW X T W e ta) : IT X T W e ta := h.pt
theorem it_not (ha : IT X T W a ta) : IT X T W (.UnaryOp .Not a pos) (mNot ta) := PTw (pt_not ha) fun σ H Q ⟨f, env, st, re, rh, p⟩ =>
  ⟨f, env, st, re, rh, p.bind fun x st1 f1 H1 vx hp s rh1 rx p1 => by cases rx; exact p1.now rh1 rfl⟩
def SndC (K : PySem.W.Frag) (T : Tb) (r : List V → Hp → VK → Prop) (g : List Dt → Sto → Re Dt) : Prop := ∀ (f : List Addr) (H : Hp) (st : Sto) (xs : List Dt) (vs : List V) (Wx : Value → Option Addr → Hp → Prop) (Q : VK),
  RH K T f H st → RVs K T H f xs vs → Post K T (rV K T) Wx f H (g xs st) Q → r vs H Q
theorem evC {r : List V → Hp → VK → Prop} {g : List Dt → Sto → Re Dt} (hg : SndC X.K T r g) {σ : L2.St} {H : Hp} {Q : VK} (h : tG X.K T (rV X.K T) W (mCB g ms) σ H Q) : tCB r (tG X.K T (rVs X.K T) W ms) σ H Q := by
  obtain ⟨f, env, st, re, rh, p⟩ := h
  exact ⟨f, env, st, re, rh, p.bind fun x st1 f1 H1 vx hp s rh1 rx p1 => hg f1 H1 st1 x vx _ _ rh1 rx p1⟩
theorem ie_callB {id : String} {x : Str} {r : List V → Hp → VK → Prop} {g : List Dt → Sto → Re Dt} {p : Pos} (hc : CallR X (.builtin id) r) (hg : SndC X.K T r g) (hgl : Gl X x) (hm : X.mg x = none) (hv : bootBuiltins x = some (.builtin id)) (ha : IA X T W (e :: es) ms)
    (hn : x ≠ "__name__" := by decide) (hdb : (x == ("__debug__" : Str)) = false := by decide) (he : starEach (e :: es) X.env = (false, eval e X.env) :: starEach es X.env := by rfl) (hpl : (backTo pos (starEach es X.env)).any (·.1) = false := by rfl) :
    IE X T W (.Call (.Name x p) (e :: es) [] pos) (mCB g ms) := PEw (pe_callB hc hgl hm hv ha hn hdb he hpl) fun _ _ _ => evC hg
theorem ie_callTy {Ty : String} {x : Str} {r : List V → Hp → VK → Prop} {g : List Dt → Sto → Re Dt} {p : Pos} (hc : CallR X (.type Ty) r) (hg : SndC X.K T r g) (hgl : Gl X x) (hm : X.mg x = none) (hv : bootBuiltins x = some (.type Ty)) (ha : IA X T W (e :: es) ms)
    (hn : x ≠ "__name__" := by decide) (hdb : (x == ("__debug__" : Str)) = false := by decide) (he : starEach (e :: es) X.env = (false, eval e X.env) :: starEach es X.env := by rfl) (hpl : (backTo pos (starEach es X.env)).any (·.1) = false := by rfl) :
    IE X T W (.Call (.Name x p) (e :: es) [] pos) (mCB g ms) := PEw (pe_callTy hc hgl hm hv ha hn hdb he hpl) fun _ _ _ => evC hg
end
end LT
set_option Elab.async false
set_option linter.all false
set_option maxRecDepth 100000
namespace LT
open PySem PySem.Spec PyProof.Rows L2
section
variable {X : Cx} {T : Tb} {K : PySem.W.Frag}
theorem Post.stuck {α β : Type} {rel : Rel α β} {W : Value → Option Addr → Hp → Prop} {f : List Addr} {H : Hp} {Q : β → Hp → Prop} {C : Prop} (h : Post K T rel W f H (Re.stuck : Re α) Q) : C := h.elim
theorem len_str (x : Str) : x.cps.toList.length = x.length := Array.length_toList
theorem RH.lst {f : List Addr} {H : Hp} {st : Sto} {i : Nat} {a : Addr} {xs : List Dt} (rh : RH K T f H st) (hi : f[i]? = some a) (ho : st[i]? = some (.lst xs)) : ∃ vs, H a = some (.lst vs) ∧ RVs K T H f xs vs := rh.obj _ _ _ ho hi
theorem new_li {f : List Addr} {H : Hp} {st : Sto} {p : Addr} {xs : List Dt} {vs : List V} {W : Value → Option Addr → Hp → Prop} {Q : VK} (h : Post K T (rV K T) W f H (.ok (.li xs) st) Q) (rh : RH K T f H st) (hp : H p = none) (r : RVs K T H f xs vs) : Q (.ref p) (upd H p (.lst vs)) :=
  h f _ _ (List.prefix_refl _) (Stay.new hp) (rh.side hp) (.li (rh.free hp) upd_same (r.mono (List.prefix_refl _) (Stay.new hp)))
def lsD : Dt → Sto → Option (List Dt)
  | .li xs, _ => some xs
  | .ref i, st => match st[i]? with
    | some (.lst xs) => some xs
    | _ => none
  | _, _ => none
theorem lsD_ok {f : List Addr} {H : Hp} {st : Sto} {d : Dt} {v : V} {xs : List Dt} (rh : RH K T f H st) (r : RV K T H f d v) (h : lsD d st = some xs) : ∃ a vs, v = .ref a ∧ H a = some (.lst vs) ∧ RVs K T H f xs vs := by
  cases r with
  | li hf hs r => cases h; exact ⟨_, _, rfl, hs, r⟩
  | ref hi =>
    obtain ⟨o, ho⟩ := rh.lt hi
    simp only [lsD, ho] at h
    cases o <;> first | cases h | skip
    obtain ⟨vs, h1, h2⟩ := rh.lst hi ho
    exact ⟨_, _, rfl, h1, h2⟩
  | _ => cases h
theorem new_tup {f : List Addr} {H : Hp} {st : Sto} {p : Addr} {xs : List Dt} {vs : List V} {W : Value → Option Addr → Hp → Prop} {Q : VK} (h : Post K T (rV K T) W f H (.ok (.tup xs) st) Q) (rh : RH K T f H st) (hp : H p = none) (r : RVs K T H f xs vs) : Q (.ref p) (upd H p (.tup vs)) :=
  h f _ _ (List.prefix_refl _) (Stay.new hp) (rh.side hp) (.tup (.inl (.inl upd_same)) (r.mono (List.prefix_refl _) (Stay.new hp)))
theorem put_ob {α β : Type} {rel : Rel α β} {f : List Addr} {H : Hp} {st : Sto} {i : Nat} {a : Addr} {u : HO} {o o0 : Ob} {d : α} {b : β} {W : Value → Option Addr → Hp → Prop} {Q : β → Hp → Prop} (h : Post K T rel W f H (.ok d (st.set i o)) Q) (rh : RH K T f H st) (hi : f[i]? = some a) (ho : st[i]? = some o0)
    (new : RO K T (upd H a u) f a o) (rb : rel (upd H a u) f d b) : Q b (upd H a u) :=
  h f _ _ (List.prefix_refl _) ((rh.obj _ _ _ ho hi).stay (mem_of hi) u) (rh.put hi new) rb

def i2 (g : Int → Int → Dt) : Dt → Dt → Sto → Re Dt
  | .int i, .int j, st => .ok (g i j) st
  | _, _, _ => .stuck
theorem snd_i0 {g : Int → Int → V} {h : Int → Int → Dt} (hg : ∀ i j (H : Hp) f, RV K T H f (h i j) (g i j)) : Snd2 K T (rI0 g) (i2 h) := fun f H st x y vx vy Wx Q rh rx ry p => by
  cases rx <;> first | exact p.elim | skip
  cases ry <;> first | exact p.elim | skip
  exact ⟨_, _, rfl, rfl, p.now rh (hg _ _ _ _)⟩
def i2c (c : Int → Int → Bool) (g : Int → Int → Dt) : Dt → Dt → Sto → Re Dt
  | .int i, .int j, st => if c i j then .ok (g i j) st else .stuck
  | _, _, _ => .stuck
theorem snd_ic {C : Int → Int → Prop} {c : Int → Int → Bool} {g : Int → Int → V} {h : Int → Int → Dt} (hc : ∀ i j, c i j = true → C i j) (hg : ∀ i j (H : Hp) f, RV K T H f (h i j) (g i j)) : Snd2 K T (rI C g) (i2c c h) := fun f H st x y vx vy Wx Q rh rx ry p => by
  cases rx <;> first | exact p.elim | skip
  cases ry <;> first | exact p.elim | skip
  rename_i i j
  have p' : Post K T (rV K T) Wx f H (if c i j then .ok (h i j) st else .stuck) Q := p
  split at p'
  · rename_i q
    exact ⟨_, _, rfl, rfl, hc _ _ q, p'.now rh (hg _ _ _ _)⟩
  · exact p'.elim
def subD := i2 fun i j => .int (i - j)
def cMul (i j : Int) : Bool := (decide (-(18446744073709551616) < i) && decide (i < 18446744073709551616)) || (decide (-(18446744073709551616) < j) && decide (j < 18446744073709551616))
theorem cMul_ok (i j : Int) (h : cMul i j = true) : CMul i j := by
  unfold cMul at h
  rw [Bool.or_eq_true, Bool.and_eq_true, Bool.and_eq_true] at h
  rcases h with ⟨h1, h2⟩ | ⟨h1, h2⟩
  · exact .inl ⟨of_decide_eq_true h1, of_decide_eq_true h2⟩
  · exact .inr ⟨of_decide_eq_true h1, of_decide_eq_true h2⟩
def mulI := i2c cMul fun i j => .int (i * j)
theorem snd_mulI : Snd2 K T (rI CMul fun i j => .int (i * j)) mulI := snd_ic cMul_ok fun _ _ _ _ => .int _
def fdivD := i2c (fun _ j => decide (0 < j) && decide (j < 1073741824)) fun i j => .int (i / j)
theorem snd_fdiv : Snd2 K T (rI CDiv fun i j => .int (i / j)) fdivD := snd_ic (fun i j h => by
  rw [Bool.and_eq_true] at h
  exact ⟨of_decide_eq_true h.1, of_decide_eq_true h.2⟩) fun _ _ _ _ => .int _
def modD := i2c (fun _ j => decide (0 < j)) fun i j => .int (i % j)
theorem snd_mod : Snd2 K T (rI (fun _ j => 0 < j) fun i j => .int (i % j)) modD := snd_ic (fun i j h => of_decide_eq_true h) fun _ _ _ _ => .int _
def powD := i2c (fun i j => decide (0 ≤ j) && decide (j ≤ 1000) && decide (-(18446744073709551616) < i) && decide (i < 18446744073709551616)) fun i j => .int (i ^ j.toNat)
theorem snd_pow : Snd2 K T (rI CPow fun i j => .int (i ^ j.toNat)) powD := snd_ic (fun i j h => by
  rw [Bool.and_eq_true, Bool.and_eq_true, Bool.and_eq_true] at h
  have h1 := of_decide_eq_true h.1.1.1
  have h2 := of_decide_eq_true h.1.1.2
  have h3 := of_decide_eq_true h.1.2
  have h4 := of_decide_eq_true h.2
  exact ⟨h1, by omega, by show i.natAbs < 18446744073709551616; omega⟩) fun _ _ _ _ => .int _
def ltD := i2 fun i j => .bl (decide (i < j))
def leD := i2 fun i j => .bl (decide (i ≤ j))
def gtD := i2 fun i j => .bl (decide (j < i))
def geD := i2 fun i j => .bl (decide (j ≤ i))
theorem snd_lt : Snd2 K T (rI0 fun i j => .bl (decide (i < j))) ltD := snd_i0 fun _ _ _ _ => .bl _
theorem snd_gt : Snd2 K T (rI0 fun i j => .bl (decide (j < i))) gtD := snd_i0 fun _ _ _ _ => .bl _
theorem snd_ge : Snd2 K T (rI0 fun i j => .bl (decide (j ≤ i))) geD := snd_i0 fun _ _ _ _ => .bl _
def negD : Dt → Sto → Re Dt
  | .int i, st => .ok (.int (-i)) st
  | _, _ => .stuck
theorem snd_neg : Snd1 K T (rU fun i => .int (-i)) negD := fun f H st x vx Wx Q rh rx p => by
  cases rx <;> first | exact p.elim | skip
  exact ⟨_, rfl, p.now rh (.int _)⟩
def addD (x y : Dt) (st : Sto) : Re Dt := match x, y with
  | .int i, .int j => .ok (.int (i + j)) st
  | .str a, .str b => if a.length + b.length ≤ lim then .ok (.str (a ++ b)) st else .stuck
  | .tup a, .tup b => if a.length + b.length ≤ lim then .ok (.tup (a ++ b)) st else .stuck
  | x, y => match lsD x st, lsD y st with
    | some a, some b => if a.length + b.length ≤ lim then .ok (.li (a ++ b)) st else .stuck
    | _, _ => .stuck
def rAddD (K : PySem.W.Frag) : R2 := fun x y H Q => (∃ i j, x = .int i ∧ y = .int j ∧ Q (.int (i + j)) H) ∨ (∃ i j, x = .str i ∧ y = .str j ∧ i.length + j.length ≤ sizeLine ∧ Q (.str (i ++ j)) H) ∨ rCatA K x y H Q ∨ rCat x y H Q
theorem op_addD : OpR X (binaryOp .Add) (rAddD X.K) := OpR.or op_add (OpR.or op_add_str (OpR.or op_catA op_cat))
theorem str_app (a b : Str) : (a ++ b).cps.toList = a.cps.toList ++ b.cps.toList := by
  show (a.cps ++ b.cps).toList = _
  rw [Array.toList_append]
theorem snd_addL {f : List Addr} {H : Hp} {st : Sto} {x y : Dt} {vx vy : V} {Wx : Value → Option Addr → Hp → Prop} {Q : VK} (rh : RH K T f H st) (rx : RV K T H f x vx) (ry : RV K T H f y vy)
    (p : Post K T (rV K T) Wx f H (match lsD x st, lsD y st with
    | some a, some b => if a.length + b.length ≤ lim then .ok (.li (a ++ b)) st else .stuck
    | _, _ => .stuck) Q) : rCat vx vy H Q := by
  cases h1 : lsD x st with
  | none => rw [h1] at p; exact p.elim
  | some a =>
    cases h2 : lsD y st with
    | none => rw [h1, h2] at p; exact p.elim
    | some b =>
      rw [h1, h2] at p
      simp only at p
      obtain ⟨_, _, rfl, q1, r1⟩ := lsD_ok rh rx h1
      obtain ⟨_, _, rfl, q2, r2⟩ := lsD_ok rh ry h2
      split at p
      · rename_i hl
        rw [r1.len, r2.len] at hl
        exact ⟨_, _, _, _, rfl, rfl, q1, q2, lim_le hl, fun q hq => new_li p rh hq (r1.app r2)⟩
      · exact p.elim
theorem snd_add : Snd2 K T (rAddD K) addD := fun f H st x y vx vy Wx Q rh rx ry p => by
  unfold addD at p
  split at p
  · cases rx; cases ry
    exact .inl ⟨_, _, rfl, rfl, p.now rh (.int _)⟩
  · cases rx; cases ry
    rename_i a b
    split at p
    · rename_i hl
      rw [len_str, len_str] at hl
      exact .inr (.inl ⟨_, _, rfl, rfl, lim_le hl, p.now rh (.str' (str_app a b))⟩)
    · exact p.elim
  · rename_i as bs
    cases rx with
    | @tup as va ha hs1 r1 =>
    cases ry with
    | @tup bs vb hb hs2 r2 =>
    split at p
    · rename_i hl
      rw [r1.len, r2.len] at hl
      refine .inr (.inr (.inl ⟨_, _, _, _, rfl, rfl, hs1, hs2, lim_le hl, fun z => ?_, fun z z2 => ?_, fun z z2 q hq => ?_⟩))
      · subst z; cases r1
        exact p.now rh (.tup hs2 r2)
      · subst z2; cases r2
        rw [List.append_nil] at p
        exact p.now rh (.tup hs1 r1)
      · exact new_tup p rh hq (r1.app r2)
    · exact p.elim
  · exact .inr (.inr (.inr (snd_addL rh rx ry p)))
def repL (n : Nat) (xs : List Dt) : List Dt := (List.replicate n xs).flatten
theorem RVs.rep {f : List Addr} {H : Hp} {xs : List Dt} {vs : List V} (r : RVs K T H f xs vs) : ∀ n, RVs K T H f (repL n xs) (List.replicate n vs).flatten
  | 0 => .nil
  | n + 1 => by
    unfold repL
    rw [List.replicate_succ, List.replicate_succ, List.flatten_cons, List.flatten_cons]
    exact r.app (RVs.rep r n)
def mulD (x y : Dt) (st : Sto) : Re Dt := match x, y with
  | .int i, .int j => if cMul i j then .ok (.int (i * j)) st else .stuck
  | x, .int k => match lsD x st with
    | some a => if -1000000 ≤ k ∧ k ≤ 1000000 ∧ a.length * k.toNat ≤ lim then .ok (.li (repL k.toNat a)) st else .stuck
    | _ => .stuck
  | _, _ => .stuck
def rMulD : R2 := fun x y H Q => rI CMul (fun i j => .int (i * j)) x y H Q ∨ rRep x y H Q
theorem op_mulD : OpR X (binaryOp .Mult) rMulD := OpR.or op_mul op_rep
theorem snd_mul : Snd2 K T rMulD mulD := fun f H st x y vx vy Wx Q rh rx ry p => by
  unfold mulD at p
  split at p
  · cases rx; cases ry
    exact .inl (snd_mulI f H st _ _ _ _ Wx Q rh (.int _) (.int _) p)
  · rename_i k _
    cases h1 : lsD x st with
    | none => rw [h1] at p; exact p.elim
    | some a =>
      rw [h1] at p
      simp only at p
      obtain ⟨_, _, rfl, q1, r1⟩ := lsD_ok rh rx h1
      cases ry
      split at p
      · rename_i hl
        obtain ⟨l1, l2, l3⟩ := hl
        rw [r1.len] at l3
        exact .inr ⟨_, _, _, rfl, rfl, q1, by omega, by omega, lim_le l3, fun q hq => new_li p rh hq (r1.rep _)⟩
      · exact p.elim
  · exact p.elim
end
end LT
set_option Elab.async false
set_option linter.all false
set_option maxRecDepth 100000
namespace LT
open PySem PySem.Spec PyProof.Rows L2
section
variable {X : Cx} {T : Tb} {K : PySem.W.Frag}
def toP : Nat → Sto → Dt → Option PyData
  | 0, _, _ => none
  | n + 1, st, d => match d with
    | .non => some .none
    | .bl b => some (.bool b)
    | .int i => some (.int i)
    | .str s => some (.str ⟨s.toArray⟩)
    | .tup xs => (xs.mapM (toP n st)).map .tuple
    | .rl xs => (xs.mapM (toP n st)).map .list
    | .li xs => (xs.mapM (toP n st)).map .list
    | .ob _ _ => none
    | .dv _ => none
    | .cl _ => none
    | .dn _ => none
    | .er _ _ => none
    | .ref i => match st[i]? with
      | some (.lst xs) => (xs.mapM (toP n st)).map .list
      | _ => none
theorem str_eta (x : Str) : (⟨x.cps.toList.toArray⟩ : Str) = x := by
  cases x; simp
theorem toP_all {f : List Addr} {H : Hp} {st : Sto} {n : Nat} (ih : ∀ (d : Dt) (v : V) (p : PyData), RV K T H f d v → toP n st d = some p → Dp K H v p) : ∀ (xs : List Dt) (vs : List V) (ps : List PyData), RVs K T H f xs vs → xs.mapM (toP n st) = some ps → DpAll K H vs ps
  | [], _, ps, .nil, h => by
    simp at h; subst h; exact .nil
  | d :: ds, _, ps, .cons r t, h => by
    rw [List.mapM_cons] at h
    cases h1 : toP n st d with
    | none => rw [h1] at h; cases h
    | some p =>
      rw [h1] at h
      cases h2 : ds.mapM (toP n st) with
      | none => rw [h2] at h; cases h
      | some q =>
        rw [h2] at h
        cases h
        exact .cons (ih _ _ _ r h1) (toP_all ih ds _ q t h2)
theorem toP_ok {f : List Addr} {H : Hp} {st : Sto} (rh : RH K T f H st) : ∀ (n : Nat) (d : Dt) (v : V) (p : PyData), RV K T H f d v → toP n st d = some p → Dp K H v p
  | 0, _, _, _, _, h => by cases h
  | n + 1, d, v, p, r, h => by
    have ih := toP_ok rh n
    cases r with
    | non => cases h; exact .non
    | bl b => cases h; exact .bl b
    | int i => cases h; exact .int i
    | str x =>
      have e : p = .str x := by
        have h' : some (PyData.str ⟨x.cps.toList.toArray⟩) = some p := h
        rw [str_eta] at h'
        exact (Option.some.inj h').symm
      subst e
      exact .str x
    | @tup ds vs a hs r =>
      have h' : (ds.mapM (toP n st)).map PyData.tuple = some p := h
      cases h2 : ds.mapM (toP n st) with
      | none => rw [h2] at h'; cases h'
      | some q => rw [h2] at h'; cases h'; exact .tup hs (toP_all ih _ _ _ r h2)
    | @rl ds vs a hs r =>
      have h' : (ds.mapM (toP n st)).map PyData.list = some p := h
      cases h2 : ds.mapM (toP n st) with
      | none => rw [h2] at h'; cases h'
      | some q => rw [h2] at h'; cases h'; exact .lst hs.sq (toP_all ih _ _ _ r h2)
    | @li ds vs a hf hs r =>
      have h' : (ds.mapM (toP n st)).map PyData.list = some p := h
      cases h2 : ds.mapM (toP n st) with
      | none => rw [h2] at h'; cases h'
      | some q => rw [h2] at h'; cases h'; exact .lst (.inl (.inl hs)) (toP_all ih _ _ _ r h2)
    | ob hf hs r => cases h
    | dv hf hs r => cases h
    | cl c => first | exact p.elim | exact p1.elim | exact p2.elim | exact p3.elim | (cases h; done) | (cases hd; done) | (cases h1; done) | (simp at h; done) | (simp_all; done)
    | dn _ _ _ => first | exact p.elim | exact p1.elim | exact p2.elim | exact p3.elim | (cases h; done) | (cases hd; done) | (cases h1; done) | (simp at h; done) | (simp_all; done)
    | er _ _ _ _ _ => first | exact p.elim | exact p1.elim | exact p2.elim | exact p3.elim | (cases h; done) | (cases hd; done) | (cases h1; done) | (simp at h; done) | (simp_all; done)
    | er0 _ _ => first | exact p.elim | exact p1.elim | exact p2.elim | exact p3.elim | (cases h; done) | (cases hd; done) | (cases h1; done) | (simp at h; done) | (simp_all; done)
    | @ref i a hi =>
      obtain ⟨o, ho⟩ := rh.lt hi
      simp only [toP, ho] at h
      cases o with
      | lst xs =>
        obtain ⟨vs, h3, r⟩ := rh.lst hi ho
        have h' : (xs.mapM (toP n st)).map PyData.list = some p := h
        cases h2 : xs.mapM (toP n st) with
        | none => rw [h2] at h'; cases h'
        | some q => rw [h2] at h'; cases h'; exact .lst (.inl (.inl h3)) (toP_all ih _ _ _ r h2)
      | _ => cases h
def lenL : Dt → Sto → Option Nat
  | .rl xs, _ => some xs.length
  | .li xs, _ => some xs.length
  | .ref i, st => match st[i]? with
    | some (.lst xs) => some xs.length
    | _ => none
  | _, _ => none
theorem lenL_ok {f : List Addr} {H : Hp} {st : Sto} {d : Dt} {v : V} {n : Nat} (rh : RH K T f H st) (r : RV K T H f d v) (h : lenL d st = some n) : ∃ a xs, v = .ref a ∧ SqL K H a xs ∧ xs.length = n := by
  cases r with
  | @rl ds vs a hs r => cases h; exact ⟨_, _, rfl, hs.sq, r.len.symm⟩
  | @li ds vs a hf hs r => cases h; exact ⟨_, _, rfl, .inl (.inl hs), r.len.symm⟩
  | @ref i a hi =>
    obtain ⟨o, ho⟩ := rh.lt hi
    simp only [lenL, ho] at h
    cases o with
    | lst xs => cases h; obtain ⟨vs, h3, r⟩ := rh.lst hi ho; exact ⟨_, _, rfl, .inl (.inl h3), r.len.symm⟩
    | _ => cases h
  | _ => cases h
def eqB (x y : Dt) (st : Sto) : Option Bool := match x, y with
  | .str a, .str b => some (decide (a = b))
  | .int i, .int j => some (decide (i = j))
  | .bl a, .bl b => some (decide (a = b))
  | .non, .non => some true
  | .non, .str _ => some false
  | .str _, .non => some false
  | .non, .int _ => some false
  | .int _, .non => some false
  | x, y => match lenL x st, lenL y st with
    | some m, some n => if m = n then eqP x y st else some false
    | _, _ => eqP x y st
where eqP (x y : Dt) (st : Sto) : Option Bool := match toP 40 st x, toP 40 st y with
    | some a, some b => if SeqAt.shaped a && SeqAt.shaped b then some (PyData.eqv a b) else none
    | _, _ => none
def rLens (K : PySem.W.Frag) (b : Bool) : R2 := fun x y H Q => ∃ p q xs ys, x = .ref p ∧ y = .ref q ∧ SqL K H p xs ∧ SqL K H q ys ∧ xs.length ≠ ys.length ∧ Q (.bl b) H
theorem op_lens (hu : X.A.units < cLine) : OpR X (compareOp .Eq) (rLens X.K false) := by
  intro pins s σ H x y v u Q I rx ry h
  obtain ⟨p, q, xs, ys, rfl, rfl, h1, h2, hl, hq⟩ := h
  cases rx; cases ry
  obtain ⟨i1, r1, t1, _⟩ := I.list h1
  obtain ⟨i2, r2, t2, _⟩ := I.list h2
  refine SeqAt.eq_list_lengthsAt t1.isList t2.isList ?_ hu ⟨.bl false, H, I, rfl, hq⟩
  rw [List.size_toArray, List.size_toArray, ← r1.length, ← r2.length]
  simpa using hl
theorem op_lensN (hu : X.A.units < cLine) : OpR X (compareOp .NotEq) (rLens X.K true) := by
  intro pins s σ H x y v u Q I rx ry h
  obtain ⟨p, q, xs, ys, rfl, rfl, h1, h2, hl, hq⟩ := h
  cases rx; cases ry
  obtain ⟨i1, r1, t1, _⟩ := I.list h1
  obtain ⟨i2, r2, t2, _⟩ := I.list h2
  refine SeqAt.RcNeAt.lists_lengths t1.isList t2.isList ?_ hu _ _ _ _ ⟨.bl true, H, I, rfl, hq⟩
  rw [List.size_toArray, List.size_toArray, ← r1.length, ← r2.length]
  simpa using hl
def rEqA (K : PySem.W.Frag) : R2 := fun x y H Q => rEq x y H Q ∨ rLens K false x y H Q ∨ rEqD K x y H Q
def rNeA (K : PySem.W.Frag) : R2 := fun x y H Q => rNe x y H Q ∨ rLens K true x y H Q ∨ rNeD K x y H Q
theorem op_eqA (hu : X.A.units + 64 < cLine) : OpR X (compareOp .Eq) (rEqA X.K) := OpR.or op_eq (OpR.or (op_lens (by omega)) (op_eqD hu))
theorem op_neA (hu : X.A.units + 64 < cLine) : OpR X (compareOp .NotEq) (rNeA X.K) := OpR.or op_ne (OpR.or (op_lensN (by omega)) (op_neD hu))
theorem dec_strL (a b : Str) : decide (V.str a = V.str b) = decide (a.cps.toList = b.cps.toList) := by
  by_cases h : a = b
  · subst h; simp
  · rw [decide_eq_false (fun z => h (V.str.inj z)), decide_eq_false (fun z => h ?_)]
    have z' : a.cps = b.cps := Array.toList_inj.mp z
    cases a; cases b; simp at z'; rw [z']
theorem eqB_ways {f : List Addr} {H : Hp} {st : Sto} {x y : Dt} {vx vy : V} {b : Bool} (rh : RH K T f H st) (rx : RV K T H f x vx) (ry : RV K T H f y vy) (h : eqB x y st = some b) :
    (scal vx vy = true ∧ decide (vx = vy) = b) ∨ (b = false ∧ ∃ p q xs ys, vx = .ref p ∧ vy = .ref q ∧ SqL K H p xs ∧ SqL K H q ys ∧ xs.length ≠ ys.length) ∨ ∃ d e, Dp K H vx d ∧ Dp K H vy e ∧ SeqAt.shaped d = true ∧ SeqAt.shaped e = true ∧ PyData.eqv d e = b := by
  have deep : eqB.eqP x y st = some b → ∃ d e, Dp K H vx d ∧ Dp K H vy e ∧ SeqAt.shaped d = true ∧ SeqAt.shaped e = true ∧ PyData.eqv d e = b := fun h => by
    unfold eqB.eqP at h
    split at h
    · rename_i d e h1 h2
      split at h
      · rename_i hs
        rw [Bool.and_eq_true] at hs
        cases h
        exact ⟨d, e, toP_ok rh _ _ _ _ rx h1, toP_ok rh _ _ _ _ ry h2, hs.1, hs.2, rfl⟩
      · cases h
    · cases h
  have gen : (match lenL x st, lenL y st with
    | some m, some n => if m = n then eqB.eqP x y st else some false
    | _, _ => eqB.eqP x y st) = some b → (b = false ∧ ∃ p q xs ys, vx = .ref p ∧ vy = .ref q ∧ SqL K H p xs ∧ SqL K H q ys ∧ xs.length ≠ ys.length) ∨ ∃ d e, Dp K H vx d ∧ Dp K H vy e ∧ SeqAt.shaped d = true ∧ SeqAt.shaped e = true ∧ PyData.eqv d e = b := fun h => by
    split at h
    · rename_i m n h1 h2
      split at h
      · exact .inr (deep h)
      · rename_i hne
        cases h
        obtain ⟨a1, xs, e1, q1, l1⟩ := lenL_ok rh rx h1
        obtain ⟨a2, ys, e2, q2, l2⟩ := lenL_ok rh ry h2
        exact .inl ⟨rfl, _, _, _, _, e1, e2, q1, q2, by rw [l1, l2]; exact hne⟩
    · exact .inr (deep h)
  unfold eqB at h
  split at h
  · cases rx; cases ry; cases h; exact .inl ⟨rfl, dec_strL _ _⟩
  · cases rx; cases ry; cases h; exact .inl ⟨rfl, by rw [dec_int]; simp [BEq.beq]⟩
  · cases rx; cases ry; cases h; exact .inl ⟨rfl, by rw [dec_bl]; simp [BEq.beq]⟩
  · cases rx; cases ry; cases h; exact .inl ⟨rfl, rfl⟩
  · cases rx; cases ry; cases h; exact .inl ⟨rfl, rfl⟩
  · cases rx; cases ry; cases h; exact .inl ⟨rfl, rfl⟩
  · cases rx; cases ry; cases h; exact .inl ⟨rfl, rfl⟩
  · cases rx; cases ry; cases h; exact .inl ⟨rfl, rfl⟩
  · exact .inr (gen h)
def eqD (x y : Dt) (st : Sto) : Re Dt := match eqB x y st with
  | some b => .ok (.bl b) st
  | none => .stuck
def neD (x y : Dt) (st : Sto) : Re Dt := match eqB x y st with
  | some b => .ok (.bl (!b)) st
  | none => .stuck
theorem snd_eq : Snd2 K T (rEqA K) eqD := fun f H st x y vx vy Wx Q rh rx ry p => by
  unfold eqD at p
  split at p
  · rename_i b hb
    have q : Q (.bl b) H := p.now rh (.bl b)
    rcases eqB_ways rh rx ry hb with ⟨h1, h2⟩ | ⟨rfl, p1, q1, xs, ys, e1, e2, h1, h2, hl⟩ | ⟨d, e, h1, h2, h3, h4, h5⟩
    · exact .inl ⟨h1, by rw [h2]; exact q⟩
    · exact .inr (.inl ⟨p1, q1, xs, ys, e1, e2, h1, h2, hl, q⟩)
    · exact .inr (.inr ⟨d, e, h1, h2, h3, h4, by rw [h5]; exact q⟩)
  · exact p.elim
theorem snd_ne : Snd2 K T (rNeA K) neD := fun f H st x y vx vy Wx Q rh rx ry p => by
  unfold neD at p
  split at p
  · rename_i b hb
    have q : Q (.bl (!b)) H := p.now rh (.bl _)
    rcases eqB_ways rh rx ry hb with ⟨h1, h2⟩ | ⟨rfl, p1, q1, xs, ys, e1, e2, h1, h2, hl⟩ | ⟨d, e, h1, h2, h3, h4, h5⟩
    · exact .inl ⟨h1, by rw [h2]; exact q⟩
    · exact .inr (.inl ⟨p1, q1, xs, ys, e1, e2, h1, h2, hl, q⟩)
    · exact .inr (.inr ⟨d, e, h1, h2, h3, h4, by rw [h5]; exact q⟩)
  · exact p.elim
def rIsA : R2 := fun x y H Q => (y = .non ∧ Q (.bl (decide (x = .non))) H) ∨ ∃ a b, x = .bl a ∧ y = .bl b ∧ Q (.bl (decide (a = b))) H
end
end LT
set_option Elab.async false
set_option linter.all false
set_option maxRecDepth 100000
namespace LT
open PySem PySem.Spec PyProof.Rows L2
section
variable {X : Cx} {T : Tb} {K : PySem.W.Frag} {W : WX}
def seqD : Dt → Sto → Option (List Dt)
  | .tup xs, _ => some xs
  | .rl xs, _ => some xs
  | .li xs, _ => some xs
  | .ref i, st => match st[i]? with
    | some (.lst xs) => some xs
    | _ => none
  | _, _ => none
theorem seqD_ok {f : List Addr} {H : Hp} {st : Sto} {d : Dt} {v : V} {xs : List Dt} (rh : RH K T f H st) (r : RV K T H f d v) (h : seqD d st = some xs) : ∃ a vs, v = .ref a ∧ (SqL K H a vs ∨ SqT K H a vs) ∧ RVs K T H f xs vs := by
  cases r with
  | @tup ds vs a hs r => cases h; exact ⟨_, _, rfl, .inr hs, r⟩
  | @rl ds vs a hs r => cases h; exact ⟨_, _, rfl, .inl hs.sq, r⟩
  | @li ds vs a hf hs r => cases h; exact ⟨_, _, rfl, .inl (.inl (.inl hs)), r⟩
  | @ref i a hi =>
    obtain ⟨o, ho⟩ := rh.lt hi
    simp only [seqD, ho] at h
    cases o with
    | lst ys => cases h; obtain ⟨vs, h3, r⟩ := rh.lst hi ho; exact ⟨_, _, rfl, .inl (.inl (.inl h3)), r⟩
    | _ => cases h
  | _ => cases h
def flatD : Dt → Bool
  | .non => true
  | .bl _ => true
  | .int _ => true
  | .str _ => true
  | _ => false
def eqFl : Dt → Dt → Bool
  | .non, .non => true
  | .bl a, .bl b => a == b
  | .bl a, .int b => (if a then 1 else 0) == b
  | .int a, .bl b => a == (if b then 1 else 0)
  | .int a, .int b => a == b
  | .str a, .str b => a == b
  | _, _ => false
theorem str_beqL (x y : Str) : (x == y) = (x.cps.toList == y.cps.toList) := (SeqAt.str_beq x y).symm
def inB (x y : Dt) (st : Sto) : Option Bool := match x, y with
  | .str [c], .str s => some (decide (c ∈ s))
  | x, y => match seqD y st with
    | some ys => if flatD x && ys.all flatD then some (ys.any fun z => eqFl z x) else none
    | none => none
def inD (x y : Dt) (st : Sto) : Re Dt := match inB x y st with
  | some b => .ok (.bl b) st
  | none => .stuck
def ixD : Dt → Dt → Sto → Re Dt
  | .str s, .int i, st => match atI s i with
    | some c => if s.length ≤ lim then .ok (.str [c]) st else .stuck
    | none => .stuck
  | x, .int i, st => match seqD x st with
    | some xs => match atI xs i with
      | some d => .ok d st
      | none => .stuck
    | none => .stuck
  | _, _, _ => .stuck
theorem atI_ok {f : List Addr} {H : Hp} {xs : List Dt} {vs : List V} {i : Int} {d : Dt} (r : RVs K T H f xs vs) (h : atI xs i = some d) : ∃ v, atI vs i = some v ∧ RV K T H f d v := by
  unfold atI at h ⊢
  rw [r.len] at h
  cases hj : ixN vs.length i with
  | none => rw [hj] at h; cases h
  | some j => rw [hj] at h; exact r.get h
theorem snd_ix : Snd2 K T (rIx K) ixD := fun f H st x y vx vy Wx Q rh rx ry p => by
  cases ry with
  | int i =>
    have gen : (∃ xs d, seqD x st = some xs ∧ atI xs i = some d ∧ Post K T (rV K T) Wx f H (.ok d st) Q) → rIx K vx (.int i) H Q := fun ⟨xs, d, h1, h2, p⟩ => by
      obtain ⟨a, vs, e, hs, r⟩ := seqD_ok rh rx h1
      obtain ⟨v, h3, h4⟩ := atI_ok r h2
      rcases hs with hs | hs
      · exact .inl ⟨a, vs, i, v, e, rfl, hs, h3, p.now rh h4⟩
      · exact .inr (.inl ⟨a, vs, i, v, e, rfl, hs, h3, p.now rh h4⟩)
    cases rx with
    | str z =>
      have p' : Post K T (rV K T) Wx f H (match atI z.cps.toList i with
        | some c => if z.cps.toList.length ≤ lim then .ok (.str [c]) st else .stuck
        | none => .stuck) Q := p
      cases hc : atI z.cps.toList i with
      | none => rw [hc] at p'; exact p'.elim
      | some c =>
        rw [hc] at p'
        simp only at p'
        split at p'
        · rename_i hl
          rw [len_str] at hl
          exact .inr (.inr ⟨z, i, c, rfl, rfl, lim_le hl, hc, p'.now rh (.str' rfl)⟩)
        · exact p'.elim
    | @tup ds vs a hs r =>
      refine gen ?_
      simp only [ixD, seqD] at p
      cases hc : atI ds i with
      | none => rw [hc] at p; exact p.elim
      | some c => rw [hc] at p; exact ⟨_, _, rfl, hc, p⟩
    | @rl ds vs a hs r =>
      refine gen ?_
      simp only [ixD, seqD] at p
      cases hc : atI ds i with
      | none => rw [hc] at p; exact p.elim
      | some c => rw [hc] at p; exact ⟨_, _, rfl, hc, p⟩
    | @li ds vs a hf hs r =>
      refine gen ?_
      simp only [ixD, seqD] at p
      cases hc : atI ds i with
      | none => rw [hc] at p; exact p.elim
      | some c => rw [hc] at p; exact ⟨_, _, rfl, hc, p⟩
    | ob _ _ _ => exact p.elim
    | dv _ _ _ => exact p.elim
    | cl c => first | exact p.elim | exact p1.elim | exact p2.elim | exact p3.elim | (cases h; done) | (cases hd; done) | (cases h1; done) | (simp at h; done) | (simp_all; done)
    | dn _ _ _ => first | exact p.elim | exact p1.elim | exact p2.elim | exact p3.elim | (cases h; done) | (cases hd; done) | (cases h1; done) | (simp at h; done) | (simp_all; done)
    | er _ _ _ _ _ => first | exact p.elim | exact p1.elim | exact p2.elim | exact p3.elim | (cases h; done) | (cases hd; done) | (cases h1; done) | (simp at h; done) | (simp_all; done)
    | er0 _ _ => first | exact p.elim | exact p1.elim | exact p2.elim | exact p3.elim | (cases h; done) | (cases hd; done) | (cases h1; done) | (simp at h; done) | (simp_all; done)
    | @ref j a hj =>
      refine gen ?_
      simp only [ixD] at p
      split at p
      · rename_i xs hs
        split at p
        · rename_i d hc
          exact ⟨_, _, hs, hc, p⟩
        · exact p.elim
      · exact p.elim
    | non => exact p.elim
    | bl _ => exact p.elim
    | int _ => exact p.elim
  | _ => cases rx <;> exact p.elim
def cutL {α : Type} (xs : List α) (lo hi : Option Int) : List α := (xs.drop (HT.sIx xs.length 0 lo)).take (HT.sIx xs.length xs.length hi - HT.sIx xs.length 0 lo)
abbrev MO := M (Option Int)
def mNoPart : MO := fun _ st => .ok none st
def mPart (a : ME) : MO := fun env st => (a env st).bind fun x st1 => match x with
  | .int i => .ok (some i) st1
  | _ => .stuck
def mSl (g : Dt → Option Int → Option Int → Sto → Re Dt) (a : ME) (lo hi : MO) : ME := fun env st => (a env st).bind fun x st1 => (lo env st1).bind fun l st2 => (hi env st2).bind fun h st3 => g x l h st3
def slD (x : Dt) (lo hi : Option Int) (st : Sto) : Re Dt := match x with
  | .str s => if s.length ≤ lim then .ok (.str (cutL s lo hi)) st else .stuck
  | .tup xs => .ok (.tup (cutL xs lo hi)) st
  | .rl xs => .ok (.li (cutL xs lo hi)) st
  | .li xs => .ok (.li (cutL xs lo hi)) st
  | .ref i => match st[i]? with
    | some (.lst xs) => .ok (.li (cutL xs lo hi)) st
    | _ => .stuck
  | _ => .stuck
def mRev (a : ME) : ME := fun env st => (a env st).bind fun x st1 => match lsD x st1 with
  | some xs => .ok (.ref st1.length) (st1 ++ [.lst xs.reverse])
  | none => .stuck
def mRevV (a : ME) : ME := fun env st => (a env st).bind fun x st1 => match lsD x st1 with
  | some xs => .ok (.li xs.reverse) st1
  | none => .stuck
def mLstV (a : MA) : ME := fun env st => (a env st).bind fun xs st1 => if xs.length ≤ lim then .ok (.li xs) st1 else .stuck
theorem ie_lstV {es : List Expr} {ms : MA} {pos : Pos} (h : IA X T W es ms) : IE X T W (.List es pos) (mLstV ms) := PEw (pe_lst h) fun σ H Q ⟨f, env, st, re, rh, p⟩ =>
  ⟨f, env, st, re, rh, p.bind fun xs st1 f1 H1 vx hp s rh1 rx p1 => by
    split at p1
    · rename_i hl
      exact ⟨by rw [← rx.len]; exact lim_le hl, fun q hq => new_li p1 rh1 hq rx⟩
    · exact p1.elim⟩
def lenD (xs : List Dt) (st : Sto) : Re Dt := match xs with
  | [.str s] => if s.length ≤ lim then .ok (.int s.length) st else .stuck
  | [x] => match seqD x st with
    | some ys => .ok (.int ys.length) st
    | none => match x with
      | .ref i => match st[i]? with
        | some (.dk kvs) => .ok (.int kvs.length) st
        | _ => .stuck
      | .dv kvs => .ok (.int kvs.length) st
      | _ => .stuck
  | _ => .stuck
def rLenA (K : PySem.W.Frag) : List V → Hp → VK → Prop := fun xs H Q => (∃ x n, xs = [x] ∧ LenV K x H n ∧ Q (.int n) H) ∨ ∃ a kvs, xs = [V.ref a] ∧ H a = some (.dK kvs) ∧ Q (.int kvs.length) H
theorem call_lenA : CallR X (.builtin "len") (rLenA X.K) := CallR.or call_len call_lenD
theorem DR.len {f : List Addr} {H : Hp} : ∀ {ks : List (Dt × Dt)} {vs : List (Key × V)}, DR K T H f ks vs → ks.length = vs.length
  | _, _, .nil => rfl
  | _, _, .cons _ _ t => by rw [List.length_cons, List.length_cons, DR.len t]
theorem snd_len : SndC K T (rLenA K) lenD := fun f H st xs vs Wx Q rh r p => by
  cases r with
  | nil => exact p.elim
  | cons rx t =>
    cases t with
    | cons _ _ => cases rx <;> exact p.elim
    | nil =>
      have gen : ∀ {x : Dt} {v : V} {ys : List Dt}, RV K T H f x v → seqD x st = some ys → Post K T (rV K T) Wx f H (.ok (.int ys.length) st) Q → rLenA K [v] H Q := fun rx h p => by
        obtain ⟨a, vs, e, hs, r⟩ := seqD_ok rh rx h
        rw [r.len] at p
        refine .inl ⟨_, vs.length, rfl, ?_, p.now rh (.int _)⟩
        rw [e]
        exact hs.elim (fun h => .inl ⟨_, h, rfl⟩) fun h => .inr ⟨_, h, rfl⟩
      cases rx with
      | str z =>
        have p' : Post K T (rV K T) Wx f H (if z.cps.toList.length ≤ lim then .ok (.int z.cps.toList.length) st else .stuck) Q := p
        split at p'
        · rename_i hl
          rw [len_str] at hl p'
          exact .inl ⟨_, z.length, rfl, ⟨lim_le hl, rfl⟩, p'.now rh (.int _)⟩
        · exact p'.elim
      | @tup ds vs a hs r => exact gen (.tup hs r) rfl p
      | @rl ds vs a hs r => exact gen (.rl hs r) rfl p
      | @li ds vs a hf hs r => exact gen (.li hf hs r) rfl p
      | @dv kvs vs a hf hs r =>
        have p' : Post K T (rV K T) Wx f H (.ok (.int kvs.length) st) Q := p
        rw [r.len] at p'
        exact .inr ⟨a, vs, rfl, hs, p'.now rh (.int _)⟩
      | @ref i a hi =>
        obtain ⟨o, ho⟩ := rh.lt hi
        simp only [lenD, seqD, ho] at p
        cases o with
        | lst ys => exact gen (.ref hi) (by simp only [seqD, ho]) p
        | dk kvs =>
          obtain ⟨vs, h1, h2⟩ := rh.obj _ _ _ ho hi
          have p' : Post K T (rV K T) Wx f H (.ok (.int kvs.length) st) Q := p
          rw [h2.len] at p'
          exact .inr ⟨a, vs, rfl, h1, p'.now rh (.int _)⟩
        | ins c fs => exact p.elim
        | dn kvs => exact p.elim
      | _ => exact p.elim
def absD (xs : List Dt) (st : Sto) : Re Dt := match xs with
  | [.int i] => .ok (.int (if i < 0 then -i else i)) st
  | _ => .stuck
theorem snd_abs : SndC K T (fun xs H Q => ∃ i, xs = [.int i] ∧ Q (.int (if i < 0 then -i else i)) H) absD := fun f H st xs vs Wx Q rh r p => by
  cases r with
  | nil => exact p.elim
  | cons rx t =>
    cases t with
    | cons _ _ => cases rx <;> exact p.elim
    | nil =>
      cases rx <;> first | exact p.elim | skip
      exact ⟨_, rfl, p.now rh (.int _)⟩
def maxD (xs : List Dt) (st : Sto) : Re Dt := match xs with
  | [.int i, .int j] => .ok (.int (if j > i then j else i)) st
  | _ => .stuck
def minD (xs : List Dt) (st : Sto) : Re Dt := match xs with
  | [.int i, .int j] => .ok (.int (if j < i then j else i)) st
  | _ => .stuck
theorem snd_max : SndC K T (fun xs H Q => ∃ i j, xs = [.int i, .int j] ∧ Q (.int (if j > i then j else i)) H) maxD := fun f H st xs vs Wx Q rh r p => by
  cases r with
  | nil => exact p.elim
  | cons rx t =>
    cases t with
    | nil => cases rx <;> exact p.elim
    | cons ry t =>
      cases t with
      | cons _ _ => cases rx <;> cases ry <;> exact p.elim
      | nil =>
        cases rx <;> cases ry <;> first | exact p.elim | skip
        exact ⟨_, _, rfl, p.now rh (.int _)⟩
theorem snd_min : SndC K T (fun xs H Q => ∃ i j, xs = [.int i, .int j] ∧ Q (.int (if j < i then j else i)) H) minD := fun f H st xs vs Wx Q rh r p => by
  cases r with
  | nil => exact p.elim
  | cons rx t =>
    cases t with
    | nil => cases rx <;> exact p.elim
    | cons ry t =>
      cases t with
      | cons _ _ => cases rx <;> cases ry <;> exact p.elim
      | nil =>
        cases rx <;> cases ry <;> first | exact p.elim | skip
        exact ⟨_, _, rfl, p.now rh (.int _)⟩
def cintD (xs : List Dt) (st : Sto) : Re Dt := match xs with
  | [.int i] => .ok (.int i) st
  | [.bl b] => .ok (.int (if b then 1 else 0)) st
  | _ => .stuck
theorem snd_int : SndC K T (fun xs H Q => (∃ i, xs = [.int i] ∧ Q (.int i) H) ∨ ∃ k, xs = [.bl k] ∧ Q (.int (if k then 1 else 0)) H) cintD := fun f H st xs vs Wx Q rh r p => by
  cases r with
  | nil => exact p.elim
  | cons rx t =>
    cases t with
    | cons _ _ => cases rx <;> exact p.elim
    | nil =>
      cases rx <;> first | exact p.elim | skip
      · exact .inr ⟨_, rfl, p.now rh (.int _)⟩
      · exact .inl ⟨_, rfl, p.now rh (.int _)⟩
def listV (xs : List Dt) (st : Sto) : Re Dt := match xs with
  | [x] => match seqD x st with
    | some ys => .ok (.li ys) st
    | none => .stuck
  | _ => .stuck
def tupleD (xs : List Dt) (st : Sto) : Re Dt := match xs with
  | [x] => match seqD x st with
    | some ys => .ok (.tup ys) st
    | none => .stuck
  | _ => .stuck
def boolsD : List Dt → Option (List Bool)
  | [] => some []
  | .bl b :: r => (boolsD r).map (b :: ·)
  | _ :: _ => none
def lstD : Dt → Sto → Option (List Dt)
  | .rl xs, _ => some xs
  | .li xs, _ => some xs
  | .ref i, st => match st[i]? with
    | some (.lst xs) => some xs
    | _ => none
  | _, _ => none
theorem lstD_ok {f : List Addr} {H : Hp} {st : Sto} {d : Dt} {v : V} {xs : List Dt} (rh : RH K T f H st) (r : RV K T H f d v) (h : lstD d st = some xs) : ∃ a vs, v = .ref a ∧ SqL K H a vs ∧ RVs K T H f xs vs := by
  cases r with
  | @rl ds vs a hs r => cases h; exact ⟨_, _, rfl, hs.sq, r⟩
  | @li ds vs a hf hs r => cases h; exact ⟨_, _, rfl, .inl (.inl hs), r⟩
  | @ref i a hi =>
    obtain ⟨o, ho⟩ := rh.lt hi
    simp only [lstD, ho] at h
    cases o with
    | lst ys => cases h; obtain ⟨vs, h3, r⟩ := rh.lst hi ho; exact ⟨_, _, rfl, .inl (.inl h3), r⟩
    | _ => cases h
  | _ => cases h
def allD (xs : List Dt) (st : Sto) : Re Dt := match xs with
  | [x] => match lstD x st with
    | some ys => match boolsD ys with
      | some bs => .ok (.bl (bs.all id)) st
      | none => .stuck
    | none => .stuck
  | _ => .stuck
end
end LT
set_option Elab.async false
set_option linter.all false
set_option maxRecDepth 100000
namespace LT
open PySem PySem.Spec PyProof.Rows L2
def sNx : MS := fun env st => .nx env st
def sSeq (a b : MS) : MS := fun env st => match a env st with
  | .nx env1 st1 => b env1 st1
  | r => r
def sExpr (e : ME) : MS := fun env st => (e env st).on env fun _ st1 => .nx env st1
def sRet (e : ME) : MS := fun env st => (e env st).on env fun d st1 => .rt d st1
def sRetN : MS := fun _ st => .rt .non st
def sIf (t : MT) (a b : MS) : MS := fun env st => (t env st).on env fun x st1 => if x then a env st1 else b env st1
abbrev MG := Dt → Lo → Sto → Rs
def gNm (i : Nat) : MG := fun d env st => .nx (env.set i (some d)) st
def sAsg (e : ME) (g : MG) : MS := fun env st => (e env st).on env fun d st1 => g d env st1
def sSet (i : Nat) (e : ME) : MS := sAsg e (gNm i)
section
variable (K : PySem.W.Frag) (T : Tb)
def PostG (f : List Addr) (H : Hp) (r : Rs) (Q : L2.St → Hp → Prop) : Prop := match r with
  | .nx env' st' => ∀ f' H' σ', f <+: f' → Stay K T f H f' H' → RH K T f' H' st' → REn K T H' f' env' σ' → Q σ' H'
  | _ => False
def gG (m : MG) : TG := fun v σ H Q => ∃ f env st d, REn K T H f env σ ∧ RH K T f H st ∧ RV K T H f d v ∧ PostG K T f H (m d env st) Q
end
abbrev IG (X : Cx) (T : Tb) (tg : Expr) (m : MG) : Prop := PG X tg (gG X.K T m)
theorem PGw {X : Cx} {e : Expr} {t t' : TG} (h : PG X e t) (w : ∀ v σ H Q, t' v σ H Q → t v σ H Q) : PG X e t' := ⟨fun pins s σ H v u Q I r q => h.run pins s σ H v u Q I r (w v σ H Q q)⟩
section
variable {X : Cx} {T : Tb} {W : WX} {e : Expr} {me : ME} {st : Stmt} {rest : List Stmt} {ma mb : MS} {pos : Pos} {ta : MT}
theorem PostS.nx_now {K : PySem.W.Frag} {W : WX} {f : List Addr} {H : Hp} {env : Lo} {st : Sto} {E : Ends} {σ : L2.St} (p : PostS K T W f H (.nx env st) E) (rh : RH K T f H st) (re : REn K T H f env σ) : E.nx σ H := p f H σ (List.prefix_refl _) Stay.refl rh re
theorem iss_nil : ISs X T W [] sNx := PSsw pss_nil fun E σ H ⟨f, env, st, re, rh, p⟩ => p.nx_now rh re
theorem ev_seq {E : Ends} {σ : L2.St} {H : Hp} (h : sG X.K T W (sSeq ma mb) E σ H) : tSeq (sG X.K T W ma) (sG X.K T W mb) E σ H := by
  obtain ⟨f, env, st, re, rh, p⟩ := h
  refine ⟨f, env, st, re, rh, ?_⟩
  unfold sSeq at p
  cases h1 : ma env st with
  | nx env1 st1 =>
    rw [h1] at p
    exact fun f1 H1 σ1 hp s rh1 re1 => ⟨f1, env1, st1, re1, rh1, p.mono hp s⟩
  | bk env1 st1 => rw [h1] at p; exact p
  | ct env1 st1 => rw [h1] at p; exact p
  | rt d st1 => rw [h1] at p; exact p
  | ex env1 c fs st1 => rw [h1] at p; exact p
  | stuck => rw [h1] at p; exact p
theorem iss_cons (h1 : IS X T W st ma) (h2 : ISs X T W rest mb) : ISs X T W (st :: rest) (sSeq ma mb) := PSsw (pss_cons h1 h2) fun _ _ _ => ev_seq
theorem iss_one (h1 : IS X T W st ma) : ISs X T W [st] ma := pss_one h1
theorem is_expr (he : IE X T W e me) (hs : swapsWith e none pos.line X.env = pure false := by rfl) : IS X T W (.Expr e pos) (sExpr me) := PSw (ps_expr he hs) fun E σ H ⟨f, env, st, re, rh, p⟩ =>
  ⟨f, env, st, re, rh, PostS.on re p fun d st1 f1 H1 v hp s rh1 rv re1 p1 => p1.nx_now rh1 re1⟩
theorem is_ret (he : IE X T W e me) : IS X T W (.Return (some e) pos) (sRet me) := PSw (ps_ret he) fun E σ H ⟨f, env, st, re, rh, p⟩ =>
  ⟨f, env, st, re, rh, PostS.on re p fun d st1 f1 H1 v hp s rh1 rv re1 p1 => p1 f1 H1 v (List.prefix_refl _) Stay.refl rh1 rv⟩
theorem is_if {c : Expr} {a b : List Stmt} (hc : IT X T W c ta) (ha : ISs X T W a ma) (hb : ISs X T W b mb) : IS X T W (.If c a b pos) (sIf ta ma mb) := PSw (ps_if hc ha hb) fun E σ H ⟨f, env, st, re, rh, p⟩ =>
  ⟨f, env, st, re, rh, PostS.on re p fun d st1 f1 H1 v hp s rh1 rv re1 p1 => by
    cases rv
    cases d with
    | true => exact iteT ⟨f1, env, st1, re1, rh1, p1⟩
    | false => exact iteF ⟨f1, env, st1, re1, rh1, p1⟩⟩
theorem ig_name (i : Nat) {x : Str} (hN : X.N.Nodup) (hi : X.N[i]? = some x := by rfl) (hx : Loc X.env.scope x := by first | exact Or.inl rfl | exact Or.inr rfl) (hf : X.fn x = true ∨ X.env.scope.names.lookup x = some .local := by first | exact .inl rfl | exact .inr rfl) :
    IG X T (.Name x pos) (gNm i) := PGw (pg_name hN hi hx hf) fun v σ H Q ⟨f, env, st, d, re, rh, rv, p⟩ => p f H _ (List.prefix_refl _) Stay.refl rh (re.set rv)
theorem is_set (i : Nat) {x : Str} {pos' : Pos} (hN : X.N.Nodup) (he : IE X T W e me) (hi : X.N[i]? = some x := by rfl) (hx : Loc X.env.scope x := by first | exact Or.inl rfl | exact Or.inr rfl) (hs : swapsWith e (some (.Name x pos')) pos.line X.env = pure false := by rfl) (hf : X.fn x = true ∨ X.env.scope.names.lookup x = some .local := by first | exact .inl rfl | exact .inr rfl) :
    IS X T W (.Assign [.Name x pos'] e pos) (sSet i me) := PSw (ps_set hN hi hx he hs hf) fun E σ H ⟨f, env, st, re, rh, p⟩ =>
  ⟨f, env, st, re, rh, PostS.on re p fun d st1 f1 H1 v hp s rh1 rv re1 p1 => p1.nx_now rh1 (re1.set rv)⟩
theorem is_asg {tg : Expr} {g : MG} (he : IE X T W e me) (hg : IG X T tg g) (hno : ∀ d env st, (match g d env st with | .nx _ _ => true | .stuck => true | _ => false) = true := by intro _ _ _; rfl) (hs : swapsWithSole [tg] e pos.line X.env = pure false := by rfl) (hw : swappedStores [tg] e X.env = pure none := by rfl) (h1 : (assignEach [tg] X.env).map (·.2) = [assign tg X.env] := by rfl) :
    IS X T W (.Assign [tg] e pos) (sAsg me g) := PSw (ps_asg he hg hs hw h1) fun E σ H ⟨f, env, st, re, rh, p⟩ =>
  ⟨f, env, st, re, rh, PostS.on re p fun d st1 f1 H1 v hp s rh1 rv re1 p1 => ⟨f1, env, st1, d, re1, rh1, rv, by
    have h := hno d env st1
    cases hq : g d env st1 with
    | nx env2 st2 => rw [hq] at p1; exact p1
    | stuck => rw [hq] at p1; exact p1
    | _ => rw [hq] at h; cases h⟩⟩
def gTp : List Nat → MG
  | is, .tup ds, env, st => if is.length = ds.length then .nx ((is.zip ds).foldl (fun en p => en.set p.1 (some p.2)) env) st else .stuck
  | _, _, _, _ => .stuck
inductive NameTargets (X : Cx) : List Expr → List Nat → Prop
  | nil : NameTargets X [] []
  | cons {i : Nat} {x : Str} {p : Pos} {es : List Expr} {is : List Nat} (hi : X.N[i]? = some x) (hx : Loc X.env.scope x) (hf : X.fn x = true ∨ X.env.scope.names.lookup x = some .local)
      (hs : (assignEach (.Name x p :: es) X.env).map (·.2) = assign (.Name x p) X.env :: (assignEach es X.env).map (·.2)) (t : NameTargets X es is) : NameTargets X (.Name x p :: es) (i :: is)
theorem nts (i : Nat) {x : Str} {p : Pos} {es : List Expr} {is : List Nat} (t : NameTargets X es is) (hi : X.N[i]? = some x := by rfl) (hx : Loc X.env.scope x := by first | exact Or.inl rfl | exact Or.inr rfl) (hf : X.fn x = true ∨ X.env.scope.names.lookup x = some .local := by first | exact .inl rfl | exact .inr rfl)
    (hs : (assignEach (.Name x p :: es) X.env).map (·.2) = assign (.Name x p) X.env :: (assignEach es X.env).map (·.2) := by rfl) : NameTargets X (.Name x p :: es) (i :: is) := .cons hi hx hf hs t
def gNs : List Nat → TGs
  | [] => gNil
  | i :: is => gCons (gName i) (gNs is)
theorem pgs_names (hN : X.N.Nodup) : ∀ {es : List Expr} {is : List Nat}, NameTargets X es is → PGs X es (gNs is)
  | _, _, .nil => pgs_nil
  | _, _, .cons hi hx hf hs t => pgs_cons (pg_name hN hi hx hf) (pgs_names hN t) hs
theorem gNs_ok {K : PySem.W.Frag} {f : List Addr} {H : Hp} {Q : L2.St → Hp → Prop} : ∀ (is : List Nat) (ds : List Dt) (vs : List V) (env : Lo) (σ : L2.St), is.length = ds.length → RVs K T H f ds vs → REn K T H f env σ →
    (∀ σ', REn K T H f ((is.zip ds).foldl (fun en p => en.set p.1 (some p.2)) env) σ' → σ' = (is.zip vs).foldl (fun en p => en.set p.1 (some p.2)) σ → Q σ' H) → gNs is vs σ H Q
  | [], [], _, env, σ, _, .nil, re, q => ⟨rfl, q σ re rfl⟩
  | i :: is, d :: ds, _, env, σ, hl, .cons r t, re, q => ⟨_, _, rfl, gNs_ok is ds _ _ _ (by simpa using hl) t (re.set r) q⟩
  | [], _ :: _, _, _, _, hl, _, _, _ => by simp at hl
  | _ :: _, [], _, _, _, hl, _, _, _ => by simp at hl
theorem ig_tup {es : List Expr} {k : Nat} {is : List Nat} {n : Nat} (hc : X.calm = true) (hN : X.N.Nodup) (h : NameTargets X es is) (hl : is.length = n) (hn : (assignEach es X.env).length = n := by rfl) (hst : (assignEach es X.env).findIdx? (·.1) = none := by rfl) :
    IG X T (.Tuple es k pos) (gTp is) := PGw (pg_tup hc (pgs_names hN h) hn hst) fun v σ H Q ⟨f, env, st, d, re, rh, rv, p⟩ => by
  cases rv with
  | @tup ds vs a hs r =>
    have p' : PostG X.K T f H (if is.length = ds.length then .nx ((is.zip ds).foldl (fun en p => en.set p.1 (some p.2)) env) st else .stuck) Q := by
      cases is <;> exact p
    split at p'
    · rename_i hl2
      exact ⟨a, vs, rfl, hs, by rw [← r.len, ← hl2]; exact hl, gNs_ok is ds vs env σ hl2 r re fun σ' re' _ => p' f H σ' (List.prefix_refl _) Stay.refl rh re'⟩
    · exact p'.elim
  | _ => cases is <;> exact p.elim
def sPar (i j : Nat) (a : MA) : MS := fun env st => (a env st).on env fun ds st1 => match ds with
  | [x, y] => .nx ((env.set i (some x)).set j (some y)) st1
  | _ => .stuck
theorem is_par (i j : Nat) {x y : Str} {a b : Expr} {ms : MA} {px py pt pt2 : Pos} {kt k2} (hc : X.calm = true) (hN : X.N.Nodup) (ha : IA X T W [a, b] ms) (hi : X.N[i]? = some x := by rfl) (hj : X.N[j]? = some y := by rfl) (hij : i ≠ j := by decide)
    (hx : X.env.scope.names.lookup x = some .local := by rfl) (hy : X.env.scope.names.lookup y = some .local := by rfl)
    (hw : swappedStores [.Tuple [.Name x px, .Name y py] kt pt] (.Tuple [a, b] k2 pt2) X.env = pure (some [x, y]) := by rfl) (hs : swapsWithSole [.Tuple [.Name x px, .Name y py] kt pt] (.Tuple [a, b] k2 pt2) pos.line X.env = pure false := by rfl) :
    IS X T W (.Assign [.Tuple [.Name x px, .Name y py] kt pt] (.Tuple [a, b] k2 pt2) pos) (sPar i j ms) := PSw (ps_par hc hN hi hj hij hx hy ha hw hs) fun E σ H ⟨f, env, st, re, rh, p⟩ =>
  ⟨f, env, st, re, rh, PostS.on re p fun d st1 f1 H1 v hp s rh1 rv re1 p1 => by
    cases rv with
    | nil => exact p1.elim
    | cons r1 t =>
      cases t with
      | nil => exact p1.elim
      | cons r2 t =>
        cases t with
        | nil => exact ⟨_, _, rfl, p1.nx_now rh1 ((re1.set r1).set r2)⟩
        | cons _ _ => exact p1.elim⟩
def setL : Dt → Dt → Dt → Sto → Option Sto
  | .ref i, .int k, d, st => match st[i]? with
    | some (.lst xs) => match ixN xs.length k with
      | some j => some (st.set i (.lst (xs.set j d)))
      | none => none
    | _ => none
  | _, _, _, _ => none
def gSubL (mo mi : ME) : MG := fun d env st => match mo env st with
  | .ok o st1 => match mi env st1 with
    | .ok i st2 => match setL o i d st2 with
      | some st3 => .nx env st3
      | none => .stuck
    | _ => .stuck
  | _ => .stuck
theorem setL_ok {K : PySem.W.Frag} {f : List Addr} {H : Hp} {st st' : Sto} {o i d : Dt} {vo vi v : V} {Q : Hp → Prop} (rh : RH K T f H st) (ro : RV K T H f o vo) (ri : RV K T H f i vi) (rd : RV K T H f d v) (h : setL o i d st = some st')
    (q : ∀ H', Stay K T f H f H' → RH K T f H' st' → Q H') : rSetL vo vi v H Q := by
  cases ro with
  | @ref j a hj =>
    cases ri with
    | int k =>
      obtain ⟨ob, ho⟩ := rh.lt hj
      simp only [setL, ho] at h
      cases ob with
      | lst xs =>
        obtain ⟨vs, h1, h2⟩ := rh.lst hj ho
        cases hn : ixN xs.length k with
        | none => simp only [hn] at h; cases h
        | some m =>
          simp only [hn] at h
          cases h
          have stay := (rh.obj _ _ _ ho hj).stay (mem_of hj) (.lst (vs.set m v))
          refine ⟨a, vs, k, m, rfl, rfl, h1, by rw [← h2.len]; exact hn, q _ stay (rh.put hj ⟨_, upd_same, (h2.set rd m).mono (List.prefix_refl _) stay⟩)⟩
      | _ => cases h
    | _ => cases h
  | _ => cases h
theorem IE.at {o : Expr} {mo : ME} {σ : L2.St} {H : Hp} {f : List Addr} {env : Lo} {st0 st1 : Sto} {d : Dt} {W : WX} {Q : VK} (re : REn X.K T H f env σ) (rh : RH X.K T f H st0) (h : mo env st0 = .ok d st1) (q : ∀ f' H' v, f <+: f' → Stay X.K T f H f' H' → RH X.K T f' H' st1 → RV X.K T H' f' d v → Q v H') : tG X.K T (rV X.K T) W mo σ H Q :=
  ⟨f, env, st0, re, rh, by rw [h]; exact q⟩
theorem ig_sub {o i : Expr} {mo mi : ME} (ho : IE X T (fun _ _ _ _ => False) o mo) (hi : IE X T (fun _ _ _ _ => False) i mi)
    (ha : ∀ v, assign (.Subscript o i pos) X.env v = (do
      let ov ← holding [v] (eval o X.env)
      let iv ← holding [v, ov] (eval i X.env)
      standAt pos
      holding [v, ov, iv] (setItem ov iv v)
      release [v, ov, iv] []) := by intro _; rfl) : IG X T (.Subscript o i pos) (gSubL mo mi) := PGw (pg_sub ho hi set_list ha) fun v σ H Q ⟨f, env, st, d, re, rh, rv, p⟩ => by
  unfold gSubL at p
  cases h1 : mo env st with
  | ok o1 st1 =>
    rw [h1] at p
    simp only at p
    refine IE.at (o := o) re rh h1 fun f1 H1 vo hp s rh1 ro => ?_
    cases h2 : mi env st1 with
    | ok i1 st2 =>
      rw [h2] at p
      simp only at p
      refine IE.at (o := i) (re.mono hp s) rh1 h2 fun f2 H2 vi hp2 s2 rh2 ri => ?_
      cases h3 : setL o1 i1 d st2 with
      | none => rw [h3] at p; exact p.elim
      | some st3 =>
        rw [h3] at p
        exact setL_ok rh2 (ro.mono hp2 s2) ri ((rv.mono hp s).mono hp2 s2) h3 fun H3 s3 rh3 => p f2 H3 σ (hp.trans hp2) ((s.trans s2).trans s3) rh3 (((re.mono hp s).mono hp2 s2).mono (List.prefix_refl _) s3)
    | _ => rw [h2] at p; exact p.elim
  | _ => rw [h1] at p; exact p.elim
inductive Tn where
  | stop | item (d : Dt) | stuck
structure Wk where
  turn : Nat → Sto → Tn
  fuel : Nat
def RW (K : PySem.W.Frag) (T : Tb) : Rel Wk It := fun H0 f w J => ∀ (rs : List Addr) (i : Nat) (f' : List Addr) (H : Hp) (st : Sto), (∀ a, a ∈ rs → a ∈ T.rs ∨ H0 a = none) → f <+: f' → Stay K T f H0 f' H → RH K ⟨T.b, rs⟩ f' H st → match w.turn i st with
  | .stop => J.stop i H
  | .item d => J.go i H ∧ ∀ x H', J.yld i H x H' → Stay K ⟨T.b, rs⟩ f' H f' H' ∧ RH K ⟨T.b, rs⟩ f' H' st ∧ RV K ⟨T.b, rs⟩ H' f' d x
  | .stuck => True
abbrev MW := M Wk
abbrev II (X : Cx) (T : Tb) (W : WX) (tg iter : Expr) (m : MW) : Prop := L2.PI X tg iter (tG X.K T (RW X.K T) W m)
theorem PIw {X : Cx} {tg e : Expr} {t t' : TI} (h : L2.PI X tg e t) (w : ∀ σ H Q, t' σ H Q → t σ H Q) : L2.PI X tg e t' := ⟨fun pins s σ H Q I q => h.run pins s σ H Q I (w σ H Q q)⟩
def forL (w : Wk) (g : MG) (body : MS) : Nat → Nat → Lo → Sto → Rs
  | 0, _, _, _ => .stuck
  | n + 1, i, env, st => match w.turn i st with
    | .stop => .nx env st
    | .stuck => .stuck
    | .item d => match g d env st with
      | .nx env1 st1 => match body env1 st1 with
        | .nx env2 st2 => forL w g body n (i + 1) env2 st2
        | .ct env2 st2 => forL w g body n (i + 1) env2 st2
        | .bk env2 st2 => .nx env2 st2
        | r => r
      | _ => .stuck
def sFor (m : MW) (g : MG) (body : MS) : MS := fun env st => (m env st).on env fun w st1 => forL w g body w.fuel 0 env st1
theorem is_for {tg iter : Expr} {body : List Stmt} {mw : MW} {g : MG} {mb : MS} (hp : PassesOwn (model X.prog X.w) X.A X.env X.xe) (hc : X.calm = true) (hi : II X T W tg iter mw) (hg : IG X T tg g) (hb : ISs X T W body mb)
    (hs : ∀ x, foldedSetIterable iter X.env x = pure x := by intro _; rfl) : IS X T W (.For tg iter body [] pos) (sFor mw g mb) := PSw (ps_for hp hc hi hg hb hs) fun E σ H ⟨f, env, st, re, rh, p⟩ =>
  ⟨f, env, st, re, rh, PostS.on (rel := RW X.K T) re p fun w st1 f1 H1 J hp1 s1 rh1 rw1 re1 p1 => by
    refine ⟨fun i m σ2 H2 => ∃ f2 env2 st2, f1 <+: f2 ∧ Stay X.K T f1 H1 f2 H2 ∧ REn X.K T H2 f2 env2 σ2 ∧ RH X.K T f2 H2 st2 ∧ PostS X.K T W f2 H2 (forL w g mb m i env2 st2) E, ⟨w.fuel, f1, env, st1, List.prefix_refl _, Stay.refl, re1, rh1, p1⟩, ?_⟩
    rintro i m σ2 H2 ⟨f2, env2, st2, hp2, s2, re2, rh2, p2⟩
    cases m with
    | zero => exact p2.elim
    | succ n =>
      have tw := rw1 T.rs i f2 H2 st2 (fun a h => .inl h) hp2 s2 rh2
      unfold forL at p2
      cases ht : w.turn i st2 with
      | stop =>
        rw [ht] at p2 tw
        exact .inl ⟨tw, p2.nx_now rh2 re2⟩
      | stuck => rw [ht] at p2; exact p2.elim
      | item d =>
        rw [ht] at p2 tw
        simp only at p2 tw
        refine .inr ⟨tw.1, fun σ4 H4 => ∃ f4 env4 st4, f1 <+: f4 ∧ Stay X.K T f1 H1 f4 H4 ∧ REn X.K T H4 f4 env4 σ4 ∧ RH X.K T f4 H4 st4 ∧ PostS X.K T W f4 H4 (forL w g mb n (i + 1) env4 st4) E, fun σ4 H4 h => ⟨n, Nat.lt_succ_self n, h⟩, fun x H3 hy => ?_⟩
        obtain ⟨s3, rh3, rx⟩ := tw.2 x H3 hy
        refine ⟨f2, env2, st2, d, re2.mono (List.prefix_refl _) s3, rh3, rx, ?_⟩
        cases hg2 : g d env2 st2 with
        | nx env3 st3 =>
          rw [hg2] at p2
          simp only at p2
          intro f4 H4 σ4 hp4 s4 rh4 re4
          refine ⟨f4, env3, st3, re4, rh4, ?_⟩
          have hp14 := hp2.trans hp4
          have s14 := (s2.trans s3).trans s4
          have p3 := p2.mono hp4 (s3.trans s4)
          cases hb2 : mb env3 st3 with
          | nx env5 st5 =>
            rw [hb2] at p3
            exact fun f6 H6 σ6 hp6 s6 rh6 re6 => ⟨f6, env5, st5, hp14.trans hp6, s14.trans s6, re6, rh6, p3.mono hp6 s6⟩
          | ct env5 st5 =>
            rw [hb2] at p3
            exact fun f6 H6 σ6 hp6 s6 rh6 re6 => ⟨f6, env5, st5, hp14.trans hp6, s14.trans s6, re6, rh6, p3.mono hp6 s6⟩
          | bk env5 st5 => rw [hb2] at p3; exact p3
          | rt d5 st5 => rw [hb2] at p3; exact p3
          | ex env5 c5 fs5 st5 => rw [hb2] at p3; exact p3
          | stuck => rw [hb2] at p3; exact p3
        | _ => rw [hg2] at p2; exact p2.elim⟩
def whileL (t : MT) (body : MS) : Nat → Lo → Sto → Rs
  | 0, _, _ => .stuck
  | n + 1, env, st => (t env st).on env fun b st1 => if b then (match body env st1 with
        | .nx env2 st2 => whileL t body n env2 st2
        | .ct env2 st2 => whileL t body n env2 st2
        | .bk env2 st2 => .nx env2 st2
        | r => r) else .nx env st1
def sWhile (fuel : Nat) (t : MT) (body : MS) : MS := fun env st => whileL t body fuel env st
end
end LT
set_option Elab.async false
set_option linter.all false
set_option maxRecDepth 100000
namespace LT
open PySem PySem.Spec PyProof.Rows L2
section
variable {X : Cx} {T : Tb} {W : WX} {e tg : Expr} {me : ME} {pos : Pos} {K : PySem.W.Frag}
def wTup (ds : List Dt) : Wk := ⟨fun i _ => match ds[i]? with
  | some d => .item d
  | none => .stop, ds.length + 1⟩
def wLst (a n : Nat) : Wk := ⟨fun i st => match st[a]? with
  | some (.lst xs) => match xs[i]? with
    | some d => .item d
    | none => .stop
  | _ => .stuck, n + 1⟩
def wStr (s : List Nat) : Wk := ⟨fun i _ => match s[i]? with
  | some c => .item (.str [c])
  | none => .stop, s.length + 1⟩
def wRng (lo : Int) (n : Nat) : Wk := ⟨fun i _ => if i < n then .item (.int (lo + i)) else .stop, n + 1⟩
def itD : Dt → Sto → Re Wk
  | .tup ds, st => .ok (wTup ds) st
  | .rl ds, st => .ok (wTup ds) st
  | .li ds, st => .ok (wTup ds) st
  | .str s, st => .ok (wStr s) st
  | .ref i, st => match st[i]? with
    | some (.lst xs) => .ok (wLst i xs.length) st
    | _ => .stuck
  | _, _ => .stuck
def mIt (a : ME) : MW := fun env st => (a env st).bind itD
theorem rw_rl {f : List Addr} {H : Hp} {ds : List Dt} {vs : List V} {a : Addr} (hs : SqF K H a vs) (r : RVs K T H f ds vs) : RW K T H f (wTup ds) (Itl K a) := fun rs i f' H' st hr hp s rh => by
  show match (match ds[i]? with | some d => Tn.item d | none => Tn.stop) with | .stop => _ | .item d => _ | .stuck => True
  have hs' := (s.l _ _ hs).sq
  cases hi : ds[i]? with
  | none => exact ⟨vs, hs', by rw [← r.len]; exact List.getElem?_eq_none_iff.mp hi⟩
  | some d =>
    obtain ⟨v, h1, h2⟩ := r.get hi
    exact ⟨⟨vs, v, hs', h1⟩, fun x H2 hy => by
      obtain ⟨rfl, hx⟩ := hy
      have e := (hx vs hs').symm.trans h1
      cases e
      exact ⟨Stay.refl, rh, h2.view (view_of hp s.toStay0 hr) h2.closed⟩⟩
theorem rw_li {f : List Addr} {H : Hp} {ds : List Dt} {vs : List V} {a : Addr} (hf : a ∉ f ∧ a ∉ T.rs) (hs : H a = some (.lst vs)) (r : RVs K T H f ds vs) : RW K T H f (wTup ds) (Itl K a) := fun rs i f' H' st hr hp s rh => by
  have hs' : SqL K H' a vs := .inl (.inl (s.o _ _ hf.1 hf.2 hs))
  show match (match ds[i]? with | some d => Tn.item d | none => Tn.stop) with | .stop => _ | .item d => _ | .stuck => True
  cases hi : ds[i]? with
  | none => exact ⟨vs, hs', by rw [← r.len]; exact List.getElem?_eq_none_iff.mp hi⟩
  | some d =>
    obtain ⟨v, h1, h2⟩ := r.get hi
    exact ⟨⟨vs, v, hs', h1⟩, fun x H2 hy => by
      obtain ⟨rfl, hx⟩ := hy
      have e := (hx vs hs').symm.trans h1
      cases e
      exact ⟨Stay.refl, rh, h2.view (view_of hp s.toStay0 hr) h2.closed⟩⟩
theorem rw_lst {f : List Addr} {H : Hp} {j n : Nat} {a : Addr} (hj : f[j]? = some a) : RW K T H f (wLst j n) (Itl K a) := fun rs i f' H' st hr hp s rh => by
  have hj' := get_pre hp hj
  obtain ⟨o, ho⟩ := rh.lt hj'
  show match (match st[j]? with
    | some (.lst xs) => match xs[i]? with
      | some d => Tn.item d
      | none => Tn.stop
    | _ => Tn.stuck) with | .stop => _ | .item d => _ | .stuck => True
  rw [ho]
  cases o with
  | lst xs =>
    obtain ⟨vs, h1, r⟩ := rh.lst hj' ho
    have hs' : SqL K H' a vs := .inl (.inl h1)
    simp only
    cases hi : xs[i]? with
    | none => exact ⟨vs, hs', by rw [← r.len]; exact List.getElem?_eq_none_iff.mp hi⟩
    | some d =>
      obtain ⟨v, h2, h3⟩ := r.get hi
      exact ⟨⟨vs, v, hs', h2⟩, fun x H2 hy => by
        obtain ⟨rfl, hx⟩ := hy
        have e := (hx vs hs').symm.trans h2
        cases e
        exact ⟨Stay.refl, rh, h3⟩⟩
  | _ => trivial
theorem rw_rng {f : List Addr} {H : Hp} (lo : Int) (n : Nat) : RW K T H f (wRng lo n) (Itr lo n) := fun rs i f' H' st hr hp s rh => by
  show match (if i < n then Tn.item (.int (lo + i)) else Tn.stop) with | .stop => _ | .item d => _ | .stuck => True
  by_cases h : i < n
  · rw [if_pos h]
    exact ⟨h, fun x H2 hy => by
      obtain ⟨rfl, rfl⟩ := hy
      exact ⟨Stay.refl, rh, .int _⟩⟩
  · rw [if_neg h]
    exact Nat.le_of_not_lt h
def rngD (xs : List Dt) (st : Sto) : Re Wk := match xs with
  | [.int n] => if -1000000 ≤ n ∧ n ≤ 1000000 then .ok (wRng 0 n.toNat) st else .stuck
  | _ => .stuck
def mRng (a : MA) : MW := fun env st => (a env st).bind rngD
theorem ii_range {ms : MA} {p : Pos} (hg : Gl X "range") (hm : X.mg "range" = none) (ha : IA X T W [e] ms) (hs : starEach [e] X.env = [(false, eval e X.env)] := by rfl) : II X T W tg (.Call (.Name "range" p) [e] [] pos) (mRng ms) := PIw (pi_range1 hg hm ha hs) fun σ H Q ⟨f, env, st, re, rh, p⟩ =>
  ⟨f, env, st, re, rh, p.bind fun x st1 f1 H1 vx hp s rh1 rx p1 => by
    cases rx with
    | nil => exact p1.elim
    | cons r1 t =>
      cases t with
      | cons _ _ => cases r1 <;> exact p1.elim
      | nil =>
        cases r1 <;> first | exact p1.elim | skip
        rename_i n
        have p' : Post X.K T (RW X.K T) _ f1 H1 (if -1000000 ≤ n ∧ n ≤ 1000000 then .ok (wRng 0 n.toNat) st1 else .stuck) Q := p1
        split at p'
        · rename_i hn
          exact ⟨n, rfl, by omega, by omega, Post.now (rel := RW X.K T) p' rh1 (rw_rng 0 _)⟩
        · exact p'.elim⟩
def wipeE (env : Lo) : List Nat → Lo
  | [] => env
  | v :: vs => (wipeE env vs).set v none
theorem REn.wipes {f : List Addr} {H : Hp} {env : Lo} {σ : L2.St} (r : REn K T H f env σ) : ∀ vs : List Nat, REn K T H f (wipeE env vs) (wipe σ vs)
  | [] => r
  | v :: vs => (REn.wipes r vs).wipe1
def mYes : MT := fun _ st => .ok true st
abbrev W0 : WX := fun _ _ _ _ => False
structure GOk (K : PySem.W.Frag) (B : Tz) (g : MG) (t : TG) (vs : List Nat) : Prop where
  pur : ∀ d env st env1 st1, g d env st = .nx env1 st1 → st1 = st
  run : ∀ (T : Tb) (f : List Addr) (H : Hp) (env : Lo) (σ : L2.St) (st : Sto) (d : Dt) (v : V) (Q : L2.St → Hp → Prop), T.b = B → REn K T H f env (wipe σ vs) → RV K T H f d v →
    (match g d env st with
      | .nx env1 _ => ∀ σ2, REn K T H f env1 σ2 → wipe σ2 vs = wipe σ vs → Q σ2 H
      | _ => False) → t v (wipe σ vs) H Q
theorem gok_name {B : Tz} (i : Nat) : GOk K B (gNm i) (gName i) [i] := ⟨fun d env st env1 st1 h => by cases h; rfl, fun T f H env σ st d v Q _ re rv h => by
  refine h _ (re.set rv) ?_
  show ((σ.set i none).set i (some v)).set i none = σ.set i none
  rw [List.set_set, List.set_set]⟩
end
section
variable {X : Cx} {T : Tb} {W : WX} {elt tg iter : Expr} {ifs : List Expr} {scope : Scope} {own : List (Str × Nat)} {pos : Pos} {mw : MW} {g : MG} {tg' : TG} {tt : MT} {te : ME}
theorem its_nil {X : Cx} {W : WX} : PTs X [] (tG X.K T rB W mYes) := ⟨fun pins s σ H Q I ⟨f, env, st, re, rh, p⟩ => (pts_nil (X := X)).run pins s σ H Q I (p.now rh rfl)⟩
end
end LT
set_option Elab.async false
set_option linter.all false
set_option maxRecDepth 100000
namespace LT
open PySem PySem.Spec PyProof.Rows L2
def lcV (w : Wk) (g : MG) (tt : MT) (te : ME) (env : Lo) : Nat → Nat → List Dt → Sto → Re Dt
  | 0, _, _, _ => .stuck
  | n + 1, i, acc, st => match w.turn i st with
    | .stop => .ok (.li acc) st
    | .stuck => .stuck
    | .item x => match g x env st with
      | .nx env1 st1 => match tt env1 st1 with
        | .ok b st2 => if b then (match te env1 st2 with
          | .ok y st3 => if acc.length < lim then lcV w g tt te env n (i + 1) (acc ++ [y]) st3 else .stuck
          | _ => .stuck) else lcV w g tt te env n (i + 1) acc st2
        | _ => .stuck
      | _ => .stuck
def mLcV (m : MW) (g : MG) (tt : MT) (te : ME) (vs : List Nat) : ME := fun env st => (m env st).bind fun w st1 => lcV w g tt te (wipeE env vs) w.fuel 0 [] st1
def tX {α β : Type} (K : PySem.W.Frag) (B : Tz) (rel : Tb → Rel α β) (W : WX) (m : M α) : L2.St → Hp → (β → Hp → Prop) → Prop := fun σ H Q => ∃ rs, tG K ⟨B, rs⟩ (rel ⟨B, rs⟩) W m σ H Q
abbrev aside (T : Tb) (D : Addr) : Tb := ⟨T.b, D :: T.rs⟩
section
variable {K : PySem.W.Frag} {T : Tb} {f : List Addr} {H : Hp} {st : Sto} {D : Addr}
theorem view_aside {u : HO} {n : Nat} (hD : H D = none) : View K T f H (aside T D) f (upd H D u) n :=
  ⟨rfl, fun _ _ _ h => h, (Stay.new (T := T) (f := f) hD).t, (Stay.new (T := T) (f := f) hD).l, fun a v h1 h2 e => ⟨(Stay.new (K := K) hD).o a v h1 h2 e, h1, fun z => by
    rcases List.mem_cons.mp z with z | z
    · rw [z, hD] at e; cases e
    · exact h2 z⟩⟩
theorem view_back {n : Nat} : View K (aside T D) f H T f H n :=
  ⟨rfl, fun _ _ _ h => h, fun _ _ h => h, fun _ _ h => h, fun a v h1 h2 e => ⟨e, h1, fun z => h2 (List.mem_cons_of_mem _ z)⟩⟩
theorem RH.aside {u : HO} (rh : RH K T f H st) (hD : H D = none) : RH K (aside T D) f (upd H D u) st :=
  rh.view (view_aside hD) (fun a ha => upd_ne fun e => rh.fresh hD (by rw [← e]; exact ha)) fun a ha => by
    rcases List.mem_cons.mp ha with z | z
    · rw [z]; exact ⟨rh.fresh hD, _, upd_same⟩
    · obtain ⟨h1, w, h2⟩ := rh.rsv a z
      exact ⟨h1, w, by rw [upd_ne (fun e => by rw [e, hD] at h2; cases h2)]; exact h2⟩
theorem RH.back (rh : RH K (LT.aside T D) f H st) : RH K T f H st :=
  rh.view view_back (fun _ _ => rfl) fun a ha => rh.rsv a (List.mem_cons_of_mem _ ha)
theorem RVs.back {xs : List Dt} {vs : List V} (r : RVs K (LT.aside T D) H f xs vs) : RVs K T H f xs vs := r.view view_back r.closed
theorem RV.back {x : Dt} {v : V} (r : RV K (LT.aside T D) H f x v) : RV K T H f x v := r.view view_back r.closed
theorem REn.view {T' : Tb} {f' : List Addr} {H' : Hp} {env : Lo} {σ : L2.St} (re : REn K T H f env σ) (s : View K T f H T' f' H' f.length) : REn K T' H' f' env σ := ⟨re.len, fun i d e => by
  obtain ⟨v, h1, h2⟩ := re.get i d e
  exact ⟨v, h1, h2.view s h2.closed⟩⟩
theorem Stay.back {f' : List Addr} {H' : Hp} (s : Stay K (LT.aside T D) f H f' H') (hD : D ∉ f) : Stay K T f H f' H' :=
  ⟨⟨s.t, s.l, fun a u h1 h2 e => s.any h1 e, s.n⟩, fun a u h1 h2 e => s.any h1 e⟩
theorem Stay.grow {f1 f' : List Addr} {H1 H' : Hp} {u : HO} (s : Stay K T f1 H1 f' H') (hD : H1 D = none) (hD' : ∃ xs, H' D = some (.lst xs)) : Stay K T f1 H1 f' (upd H' D u) := by
  obtain ⟨xs, e⟩ := hD'
  have q := Stay.tl (K := K) (H := H') (p := D) (o := u) (fun xs z => by rw [e] at z; cases z) (fun q u z => by rw [e] at z; cases z)
  exact ⟨⟨fun a xs h => q.1 a xs (s.t a xs h), fun a xs h => q.2 a xs (s.l a xs h), fun a v h1 h2 h => by rw [upd_ne (fun z => by rw [z, hD] at h; cases h)]; exact s.o a v h1 h2 h, s.n⟩, fun a v h1 h2 h => by rw [upd_ne (fun z => by rw [z, hD] at h; cases h)]; exact s.r a v h1 h2 h⟩
theorem RH.grow {xs : List V} {u : HO} (rh : RH K (LT.aside T D) f H st) (e : H D = some (.lst xs)) : RH K (LT.aside T D) f (upd H D u) st := by
  have hD : D ∉ f := (rh.rsv D List.mem_cons_self).1
  have s : Stay0 K (LT.aside T D) f H f (upd H D u) := Stay0.aside List.mem_cons_self (fun xs z => by rw [e] at z; cases z) (fun q u z => by rw [e] at z; cases z)
  exact ⟨rh.len, rh.nd, fun i o a ho ha => (rh.obj i o a ho ha).keep0 (List.prefix_refl _) s (upd_ne fun z => hD (by rw [← z]; exact mem_of ha)), fun a ha => by
    obtain ⟨h1, w, h2⟩ := rh.rsv a ha
    refine ⟨h1, ?_⟩
    by_cases z : a = D
    · rw [z]; exact ⟨_, upd_same⟩
    · exact ⟨w, by rw [upd_ne z]; exact h2⟩⟩
end
section
variable {X : Cx} {T : Tb} {W : WX} {elt tg iter : Expr} {ifs : List Expr} {scope : Scope} {own : List (Str × Nat)} {pos : Pos} {mw : MW} {g : MG} {tg' : TG} {tt : MT} {te : ME}
theorem ev_lcV {σ : L2.St} {H : Hp} {Q : VK} {vs : List Nat} (gok : GOk X.K T.b g tg' vs) (h : tG X.K T (rV X.K T) W (mLcV mw g tt te vs) σ H Q) :
    tLc (tG X.K T (RW X.K T) W mw) tg' (tX X.K T.b (fun _ => rB) W0 tt) (tX X.K T.b (rV X.K) W0 te) vs σ H Q := by
  obtain ⟨f, env, st, re, rh, p⟩ := h
  refine ⟨f, env, st, re, rh, Post.bind (rel := RW X.K T) p fun w st1 f1 H1 J hp1 s1 rh1 rw1 p1 => fun D hD => ?_⟩
  have re1 : REn X.K T H1 f1 env σ := re.mono hp1 s1
  have st0 : Stay X.K T f1 H1 f1 (upd H1 D (.lst [])) := Stay.new hD
  refine ⟨fun i m H2 => ∃ f2 st2 acc va, f1 <+: f2 ∧ H2 D = some (.lst va) ∧ RVs X.K (aside T D) H2 f2 acc va ∧ Stay X.K T f1 H1 f2 H2 ∧ RH X.K (aside T D) f2 H2 st2 ∧ Post X.K T (rV X.K T) (fun c d H' => W c d σ H') f1 H1 (lcV w g tt te (wipeE env vs) m i acc st2) Q,
    ⟨w.fuel, f1, st1, [], [], List.prefix_refl _, upd_same, .nil, st0, rh1.aside hD, p1⟩, ?_⟩
  rintro i m H2 ⟨f2, st2, acc, va, hp2, hD2, ra, s2, rh2, p2⟩
  have hDf : D ∉ f2 := (rh2.rsv D List.mem_cons_self).1
  cases m with
  | zero => exact p2.elim
  | succ n =>
    have tw := rw1 (D :: T.rs) i f2 H2 st2 (fun a h => by
      rcases List.mem_cons.mp h with z | z
      · rw [z]; exact .inr hD
      · exact .inl z) hp2 s2 rh2
    unfold lcV at p2
    cases ht : w.turn i st2 with
    | stop =>
      rw [ht] at p2 tw
      exact .inl ⟨tw, p2 f2 H2 _ hp2 s2 rh2.back (.li ⟨hDf, fun z => by
        obtain ⟨_, u, e⟩ := rh1.rsv D z
        rw [hD] at e; cases e⟩ hD2 ra.back)⟩
    | stuck => rw [ht] at p2; exact p2.elim
    | item d =>
      rw [ht] at p2 tw
      simp only at p2 tw
      refine .inr ⟨tw.1, fun H4 => ∃ f4 st4 acc va, f1 <+: f4 ∧ H4 D = some (.lst va) ∧ RVs X.K (aside T D) H4 f4 acc va ∧ Stay X.K T f1 H1 f4 H4 ∧ RH X.K (aside T D) f4 H4 st4 ∧ Post X.K T (rV X.K T) (fun c d H' => W c d σ H') f1 H1 (lcV w g tt te (wipeE env vs) n (i + 1) acc st4) Q, fun H4 h => ⟨n, Nat.lt_succ_self n, h⟩, fun x H3 hy => ?_⟩
      obtain ⟨s3, rh3, rx⟩ := tw.2 x H3 hy
      have s23 : Stay X.K T f1 H1 f2 H3 := s2.trans (s3.back hDf)
      have re3 : REn X.K (aside T D) H3 f2 (wipeE env vs) (wipe σ vs) := (re1.view (view_of hp2 s23.toStay0 (fun a h => by
        rcases List.mem_cons.mp h with z | z
        · rw [z]; exact .inr hD
        · exact .inl z))).wipes vs
      have hD3 : H3 D = some (.lst va) := s3.any hDf hD2
      have ra3 : RVs X.K (aside T D) H3 f2 acc va := ra.mono (List.prefix_refl _) s3
      refine gok.run (aside T D) f2 H3 (wipeE env vs) σ st2 d x _ rfl re3 rx ?_
      cases hg2 : g d (wipeE env vs) st2 with
      | nx env3 st3 =>
        rw [hg2] at p2
        simp only at p2 ⊢
        have hst := gok.pur _ _ _ _ _ hg2
        subst hst
        intro σ2 re4 hw
        refine ⟨hw, D :: T.rs, f2, env3, st3, re4, rh3, ?_⟩
        have p3 := p2
        cases ht2 : tt env3 st3 with
        | ok b st5 =>
          rw [ht2] at p3
          simp only at p3
          intro f5 H5 b' hp5 s5 rh5 rb
          cases rb
          have p5 := p3
          have hD5 := s5.any hDf hD3
          have ra5 := ra3.mono hp5 s5
          have s25 := s23.trans (s5.back hDf)
          have hDf5 : D ∉ f5 := (rh5.rsv D List.mem_cons_self).1
          cases b with
          | false =>
            rw [if_neg Bool.false_ne_true] at p5 ⊢
            exact ⟨f5, st5, acc, va, hp2.trans hp5, hD5, ra5, s25, rh5, p5⟩
          | true =>
            rw [if_pos rfl] at p5 ⊢
            refine ⟨D :: T.rs, f5, env3, st5, re4.mono hp5 s5, rh5, ?_⟩
            cases he2 : te env3 st5 with
            | ok y st6 =>
              rw [he2] at p5
              simp only at p5
              intro f6 H6 vy hp6 s6 rh6 ry
              have p6 := p5
              have hD6 := s6.any hDf5 hD5
              have ra6 := ra5.mono hp6 s6
              have s26 := s25.trans (s6.back hDf5)
              split at p6
              · rename_i hl
                have gr : Stay0 X.K (aside T D) f6 H6 f6 (upd H6 D (.lst (va ++ [vy]))) := Stay0.aside List.mem_cons_self (fun xs z => by rw [hD6] at z; cases z) (fun q u z => by rw [hD6] at z; cases z)
                have s27 : Stay X.K T f1 H1 f6 (upd H6 D (.lst (va ++ [vy]))) := s26.grow hD ⟨_, hD6⟩
                refine ⟨va, hD6, by rw [← ra6.len]; exact lim_lt hl, f6, st6, acc ++ [y], va ++ [vy], (hp2.trans hp5).trans hp6, upd_same, (ra6.app (.one ry)).mono0 (List.prefix_refl _) gr, s27, rh6.grow hD6, p6⟩
              · exact p6.elim
            | _ => rw [he2] at p5; exact p5.elim
        | _ => rw [ht2] at p3; exact p3.elim
      | _ => rw [hg2] at p2; exact p2.elim
theorem pe_X {X : Cx} {e : Expr} {m : ME} {B : Tz} {W : WX} (h : ∀ rs, IE X ⟨B, rs⟩ W e m) : PE X e (tX X.K B (rV X.K) W m) := ⟨fun pins s σ H Q I ⟨rs, q⟩ => (h rs).run pins s σ H Q I q⟩
theorem pts_X {X : Cx} {e : List Expr} {m : MT} {B : Tz} {W : WX} (h : ∀ rs, PTs X e (tG X.K ⟨B, rs⟩ rB W m)) : PTs X e (tX X.K B (fun _ => rB) W m) := ⟨fun pins s σ H Q I ⟨rs, q⟩ => (h rs).run pins s σ H Q I q⟩
theorem ie_lcV (hc : X.calm = true) (hN : X.N.Nodup) (vs : List Nat) (hv : own.map (·.2) = vs) (gok : GOk X.K T.b g tg' vs) (hi : II X T W tg iter mw) (ok : BlkOk X.N X.env.scope scope own)
    (hg : ∀ (s : Shared) (H : Hp) (C : Addr) (cl : List (Str × Addr)) (fp : List Addr), PG (X.blk s H scope (compEnvC scope cl C X.env) fp) tg tg')
    (ht : ∀ (s : Shared) (H : Hp) (C : Addr) (cl : List (Str × Addr)) (fp : List Addr) (rs : List Addr), PTs (X.blk s H scope (compEnvC scope cl C X.env) fp) ifs (tG X.K ⟨T.b, rs⟩ rB W0 tt))
    (he : ∀ (s : Shared) (H : Hp) (C : Addr) (cl : List (Str × Addr)) (fp : List Addr) (rs : List Addr), IE (X.blk s H scope (compEnvC scope cl C X.env) fp) ⟨T.b, rs⟩ W0 elt te) (hs : ∀ x, foldedSetIterable iter X.env x = pure x := by intro _; rfl) :
    IE X T W (.ListComp elt [⟨tg, iter, ifs, 0⟩] scope pos) (mLcV mw g tt te vs) := by
  subst hv
  exact PEw (pe_lc hc hN hi ok hg (fun s H C cl fp => pts_X (ht s H C cl fp)) (fun s H C cl fp => pe_X (he s H C cl fp)) hs) fun _ _ _ => ev_lcV gok
theorem is_setLcV (i : Nat) {y : Str} {py spos : Pos} (hc : X.calm = true) (hN : X.N.Nodup) (vs : List Nat) (hv : own.map (·.2) = vs) (gok : GOk X.K T.b g tg' vs) (hi : II X T W tg iter mw) (ok : BlkOk X.N X.env.scope scope own)
    (hg : ∀ (s : Shared) (H : Hp) (C : Addr) (cl : List (Str × Addr)) (fp : List Addr), PG (X.blk s H scope (compEnvC scope cl C X.env) fp) tg tg')
    (ht : ∀ (s : Shared) (H : Hp) (C : Addr) (cl : List (Str × Addr)) (fp : List Addr) (rs : List Addr), PTs (X.blk s H scope (compEnvC scope cl C X.env) fp) ifs (tG X.K ⟨T.b, rs⟩ rB W0 tt))
    (he : ∀ (s : Shared) (H : Hp) (C : Addr) (cl : List (Str × Addr)) (fp : List Addr) (rs : List Addr), IE (X.blk s H scope (compEnvC scope cl C X.env) fp) ⟨T.b, rs⟩ W0 elt te)
    (hy : X.N[i]? = some y := by rfl) (hyl : X.env.scope.names.lookup y = some .local := by rfl)
    (hsw : swapsWith (.ListComp elt [⟨tg, iter, ifs, 0⟩] scope pos) (some (.Name y py)) spos.line X.env = pure true := by exact sw_true rfl rfl rfl (by decide +kernel)) (hs : ∀ x, foldedSetIterable iter X.env x = pure x := by intro _; rfl) :
    IS X T W (.Assign [.Name y py] (.ListComp elt [⟨tg, iter, ifs, 0⟩] scope pos) spos) (sSet i (mLcV mw g tt te vs)) := by
  subst hv
  exact PSw (ps_setLc hc hN hy hyl hsw hi ok hg (fun s H C cl fp => pts_X (ht s H C cl fp)) (fun s H C cl fp => pe_X (he s H C cl fp)) hs) fun E σ H ⟨f, env, st, re, rh, p⟩ =>
    ev_lcV (W := W) gok ⟨f, env, st, re, rh, PostS.on re p fun d st1 f1 H1 v hp s rh1 rv re1 p1 => p1.nx_now rh1 (re1.set rv)⟩
end
end LT
set_option Elab.async false
set_option linter.all false
set_option maxRecDepth 100000
namespace LT
open PySem PySem.Spec PyProof.Rows L2
def startE (n : Nat) (ds : List Dt) : Lo := ds.map some ++ List.replicate (n - ds.length) none
def runF (n : Nat) (m : MS) : MF := fun ds st => match m (startE n ds) st with
  | .nx _ st' => .ok .non st'
  | .rt d st' => .ok d st'
  | .ex _ c fs st' => .exc c fs st'
  | _ => .stuck
def spF (K : PySem.W.Frag) (B : Tz) (n : Nat) (F : MF) : Sp := fun vs H Q E => vs.length = n ∧ ∃ rs f ds st, RVs K ⟨B, rs⟩ H f ds vs ∧ RH K ⟨B, rs⟩ f H st ∧ Post K ⟨B, rs⟩ (rV K ⟨B, rs⟩) E f H (F ds st) Q
theorem REn.start {K : PySem.W.Frag} {T : Tb} {H : Hp} {f : List Addr} {N : List Str} {ds : List Dt} {vs : List V} (r : RVs K T H f ds vs) : REn K T H f (startE N.length ds) (L2.start N vs) := by
  refine ⟨?_, fun i d hi => ?_⟩
  · unfold startE L2.start
    rw [List.length_append, List.length_append, List.length_map, List.length_map, List.length_replicate, List.length_replicate, r.len]
  · unfold startE at hi
    unfold L2.start
    by_cases h : i < ds.length
    · rw [List.getElem?_append_left (by rw [List.length_map]; exact h), List.getElem?_map] at hi
      cases hd : ds[i]? with
      | none => rw [hd] at hi; cases hi
      | some d' =>
        rw [hd] at hi
        have e : d' = d := by simpa using hi
        subst e
        obtain ⟨v, h1, h2⟩ := r.get hd
        refine ⟨v, ?_, h2⟩
        rw [List.getElem?_append_left (by rw [List.length_map, ← r.len]; exact h), List.getElem?_map, h1]
        rfl
    · rw [List.getElem?_append_right (by rw [List.length_map]; omega)] at hi
      rw [List.getElem?_replicate] at hi
      split at hi <;> simp at hi
section
variable {P : Program} {w : World} {K : PySem.W.Frag} {mg : Str → Option Value} {base : Heap} {B : Tz}
theorem fn_ok {x qual : Str} {st : Stmt} {f : Addr} {fd : FuncData} {N ps : List Str} {k : Nat} {m : MS} (F : Fun K x qual st f fd) (S : FnScope N ps (defScope st))
    (hb : ∀ (cdv : Value) (A : Around) (outer : List Env) (s : Shared) (H : Hp) (E : XK) (rs : List Addr), Room k (A.deeper (envOfC qual (defScope st) s.heap.objs.size f cdv)) →
      ISs (cxOf (L2.CX P w) P w K mg base N qual (defScope st) f cdv A outer s H E) ⟨B, rs⟩ (fun cls d _ H => E cls d H) (defBody st) m) : FnOk P w K mg base (L2.CX P w) (k + 1) f fd ps (spF K B ps.length (runF N.length m)) := by
  refine F.okX S (fun vs H Q E h => h.1) fun cdv A outer s H vs Q E hr h => ?_
  obtain ⟨_, rs, f0, ds, st0, rvs, rh, p⟩ := h
  refine ⟨_, hb cdv A outer s H E rs hr, f0, startE N.length ds, st0, REn.start rvs, rh, ?_⟩
  unfold runF at p
  show PostS K ⟨B, rs⟩ (fun cls d _ H => E cls d H) f0 H (m (startE N.length ds) st0) _
  cases hm : m (startE N.length ds) st0 with
  | nx e1 s1 => rw [hm] at p; exact fun f' H' σ' hp s rh' _ => p f' H' .non hp s rh' .non
  | rt d s1 => rw [hm] at p; exact p
  | ex e1 c fs s1 => rw [hm] at p; exact fun f' H' σ' cls d hp s rh' _ xr => p f' H' cls d hp s rh' xr
  | bk e1 s1 => rw [hm] at p; exact p.elim
  | ct e1 s1 => rw [hm] at p; exact p.elim
  | stuck => rw [hm] at p; exact p.elim
end
def mCall (n : Nat) (F : MF) (a : MA) (dv : List Dt) : ME := fun env st => (a env st).bind fun ds st1 => if ds.length + dv.length = n then F (ds ++ dv) st1 else .stuck
section
variable {X : Cx} {T : Tb} {W : WX} {e : Expr} {es : List Expr} {ms : MA} {me : ME} {pos p : Pos} {k n : Nat} {f : Addr} {fd : FuncData} {ps : List Str} {F : MF} {dv : List Dt} {dvs : List V} {dfs : List Value} {x : Str}
theorem ie_call (G : FnOk X.prog X.w X.K X.mg X.base (L2.CX X.prog X.w) k f fd ps (spF X.K T.b n F)) (hr : Room k X.A) (hm : X.mg x = some (.ref f)) (hk : PySem.W.keepIn X.K (.ref f) = true) (hb : Binds X.K fd ps dfs) (hd : Vals dvs dfs) (hdv : ∀ H f, RVs X.K T H f dv dvs)
    (tk : Takes X W) (ha : IA X T W (e :: es) ms) (hg : Gl X x := by rfl) (hdb : (x == ("__debug__" : Str)) = false := by decide) (he : starEach (e :: es) X.env = (false, eval e X.env) :: starEach es X.env := by rfl) (hpl : (backTo pos (starEach es X.env)).any (·.1) = false := by rfl) :
    IE X T W (.Call (.Name x p) (e :: es) [] pos) (mCall n F ms dv) := PEw (pe_callSD G hr hg hm hk hb hd (E := fun σ c d H => W c d σ H) (fun σ => passAt tk σ) ha hdb he hpl) fun σ H Q ⟨f, env, st, re, rh, p⟩ =>
  ⟨f, env, st, re, rh, p.bind fun x st1 f1 H1 vx hp s rh1 rx p1 => by
    split at p1
    · rename_i hl
      exact ⟨by rw [List.length_append, ← rx.len, ← (hdv H1 f1).len]; exact hl, T.rs, f1, _, st1, rx.app (hdv H1 f1), rh1, p1⟩
    · exact p1.elim⟩
def putN (k : Nat) (d : Dt) : List (Nat × Dt) → List (Nat × Dt)
  | [] => [(k, d)]
  | (g, x) :: r => if g = k then (g, d) :: r else (g, x) :: putN k d r
theorem FR.lookup {K : PySem.W.Frag} {H : Hp} {f : List Addr} {k : Nat} {d : Dt} : ∀ {fs : List (Nat × Dt)} {vs : List (Str × V)}, FR K T H f fs vs → fs.lookup k = some d → ∃ v, vs.lookup (T.fld k) = some v ∧ RV K T H f d v
  | _, _, .nil, h => by cases h
  | _, _, @FR.cons _ _ _ _ i d' v fs vs r t, h => by
    rw [List.lookup_cons] at h
    by_cases e : k = i
    · subst e
      rw [beq_self_eq_true] at h
      have e2 : d' = d := by simpa using h
      subst e2
      exact ⟨v, by rw [List.lookup_cons, beq_self_eq_true], r⟩
    · rw [beq_eq_false_iff_ne.mpr e] at h
      obtain ⟨v', h1, h2⟩ := FR.lookup t h
      refine ⟨v', ?_, h2⟩
      rw [List.lookup_cons, beq_eq_false_iff_ne.mpr (fun q => e (T.inj _ _ q))]
      exact h1
theorem FR.put {K : PySem.W.Frag} {H : Hp} {f : List Addr} {k : Nat} {d : Dt} {v : V} (r : RV K T H f d v) : ∀ {fs : List (Nat × Dt)} {vs : List (Str × V)}, FR K T H f fs vs → FR K T H f (putN k d fs) (putF (T.fld k) v vs)
  | _, _, .nil => .cons r .nil
  | _, _, @FR.cons _ _ _ _ i d' v' fs vs r' t => by
    unfold putN putF
    by_cases e : i = k
    · subst e
      rw [if_pos rfl, if_pos rfl]
      exact .cons r t
    · rw [if_neg e, if_neg (fun q => e (T.inj _ _ q))]
      exact .cons r' (FR.put r t)
theorem FR.len {K : PySem.W.Frag} {H : Hp} {f : List Addr} : ∀ {fs : List (Nat × Dt)} {vs : List (Str × V)}, FR K T H f fs vs → fs.length = vs.length
  | _, _, .nil => rfl
  | _, _, .cons _ t => by rw [List.length_cons, List.length_cons, FR.len t]
def insD (x : Dt) (st : Sto) : Option (Nat × List (Nat × Dt)) := match x with
  | .ref i => match st[i]? with
    | some (.ins c fs) => some (c, fs)
    | _ => none
  | _ => none
def objD (x : Dt) (st : Sto) : Option (Nat × List (Nat × Dt)) := match x with
  | .ob c fs => some (c, fs)
  | .ref i => match st[i]? with
    | some (.ins c fs) => some (c, fs)
    | _ => none
  | _ => none
def mFld (cs : List Nat) (k : Nat) (a : ME) : ME := fun env st => (a env st).bind fun x st1 => match objD x st1 with
  | some (c, fs) => if cs.contains c then (match fs.lookup k with
    | some d => .ok d st1
    | none => .stuck) else .stuck
  | none => .stuck
def sFldSet (cs : List Nat) (k : Nat) (o v : ME) : MS := fun env st => (v env st).on env fun d st1 => (o env st1).on env fun x st2 => match insD x st2, x with
  | some (c, fs), .ref i => if cs.contains c && decide (fs.length < 900) then .nx env (st2.set i (.ins c (putN k d fs))) else .stuck
  | _, _ => .stuck
def mMeth (c mk n : Nat) (F : MF) (o : ME) (a : MA) (dv : List Dt) : ME := fun env st => (o env st).bind fun x st1 => match objD x st1 with
  | some (c', fs) => if c' = c ∧ fs.lookup mk = none then (a env st1).bind fun ds st2 => if ds.length + dv.length + 1 = n then F (x :: (ds ++ dv)) st2 else .stuck else .stuck
  | none => .stuck
end
section
variable {X : Cx} {W : WX} {C f : Addr} {k : Nat} {fd : FuncData} {ps : List Str} {sp : Sp} {ds : List Value} {dvs : List V} {m x : Str} {o e : Expr} {es : List Expr} {ta : TE} {t : TA} {apos pos p : Pos}
end
section
variable {X : Cx} {T : Tb} {W : WX} {C f : Addr} {k n c mk : Nat} {fd : FuncData} {ps : List Str} {F : MF} {dfs : List Value} {dv : List Dt} {dvs : List V} {m x : Str} {o e : Expr} {es : List Expr} {mo : ME} {ms : MA} {apos pos p : Pos}
def newF (c : Nat) (F : MF) : MF := fun ds st => (F (.ref st.length :: ds) (st ++ [.ins c []])).bind fun r st2 => (match r with
  | .non => .ok (.ref st.length) st2
  | _ => .stuck)
end
end LT
set_option Elab.async false
set_option linter.all false
set_option maxRecDepth 100000
namespace LT
open PySem PySem.Spec PyProof.Rows L2
mutual
def rei (st : Sto) (n : Nat) : Nat → Dt → Option Dt
  | 0, d => if clD n d then some d else none
  | k + 1, d => if clD n d then some d else match d with
    | .ref i => match st[i]? with
      | some (.lst xs) => if clL n xs then some (.li xs) else (reiL st n k xs).map .li
      | some (.ins c fs) => if clF n fs then some (.ob c fs) else (reiF st n k fs).map (.ob c)
      | some (.dk kvs) => if clK n kvs then some (.dv kvs) else none
      | some (.dn kvs) => if clK n kvs then some (.dn kvs) else none
      | none => none
    | .tup ds => (reiL st n k ds).map .tup
    | _ => none
def reiL (st : Sto) (n : Nat) : Nat → List Dt → Option (List Dt)
  | _, [] => some []
  | k, d :: r => match rei st n k d, reiL st n k r with
    | some d', some r' => some (d' :: r')
    | _, _ => none
def reiF (st : Sto) (n : Nat) : Nat → List (Nat × Dt) → Option (List (Nat × Dt))
  | _, [] => some []
  | k, (i, d) :: r => match rei st n k d, reiF st n k r with
    | some d', some r' => some ((i, d') :: r')
    | _, _ => none
end
section
variable {K : PySem.W.Frag} {T T' : Tb} {H : Hp} {f f' : List Addr} {n : Nat} {st : Sto}
mutual
theorem rei_ok (V : View K T' f' H T f H n) (hN : ∀ i a, n ≤ i → f'[i]? = some a → a ∉ f ∧ a ∉ T.rs) (rh : RH K T' f' H st) : ∀ (k : Nat) (d : Dt) (v : L2.V) (d' : Dt), RV K T' H f' d v → rei st n k d = some d' → RV K T H f d' v
  | 0, d, v, d', r, h => by
    unfold rei at h
    split at h
    · rename_i hc; cases h; exact r.view V hc
    · cases h
  | k + 1, d, v, d', r, h => by
    unfold rei at h
    split at h
    · rename_i hc; cases h; exact r.view V hc
    · rename_i hc
      cases r with
      | @tup ds vs a hs r =>
        simp only at h
        cases h1 : reiL st n k ds with
        | none => rw [h1] at h; cases h
        | some ds' => rw [h1] at h; cases h; exact .tup hs (reiL_ok V hN rh k ds vs ds' r h1)
      | @ref i a hi =>
        simp only at h
        have hni : n ≤ i := by
          simp only [clD, decide_eq_true_eq, Nat.not_lt] at hc; exact hc
        obtain ⟨o, ho⟩ := rh.lt hi
        rw [ho] at h
        cases o with
        | lst xs =>
          simp only at h
          obtain ⟨vs, h1, h2⟩ := rh.lst hi ho
          split at h
          · rename_i hq; cases h; exact .li (hN i a hni hi) h1 (h2.view V hq)
          · cases h3 : reiL st n k xs with
            | none => rw [h3] at h; cases h
            | some ds' => rw [h3] at h; cases h; exact .li (hN i a hni hi) h1 (reiL_ok V hN rh k xs vs ds' h2 h3)
        | dk kvs =>
          simp only at h
          obtain ⟨vs, h1, h2⟩ := rh.obj _ _ _ ho hi
          split at h
          · rename_i hq; cases h; exact .dv (hN i a hni hi) h1 (h2.view V hq)
          · cases h
        | dn kvs =>
          simp only at h
          obtain ⟨vs, h1, h2⟩ := rh.obj _ _ _ ho hi
          split at h
          · rename_i hq; cases h; exact .dn (hN i a hni hi) (by rw [V.b]; exact h1) (h2.view V hq)
          · cases h
        | ins c fs =>
          simp only at h
          obtain ⟨dx, vs, h1, h2⟩ := rh.obj _ _ _ ho hi
          have hb : T.cls c = T'.cls c := by rw [Tb.cls, Tb.cls, V.b]
          rw [← hb] at h1
          split at h
          · rename_i hq; cases h; exact .ob (hN i a hni hi) h1 (h2.view V hq)
          · cases h3 : reiF st n k fs with
            | none => rw [h3] at h; cases h
            | some fs' => rw [h3] at h; cases h; exact .ob (hN i a hni hi) h1 (reiF_ok V hN rh k fs vs fs' h2 h3)
      | _ => cases h
theorem reiL_ok (V : View K T' f' H T f H n) (hN : ∀ i a, n ≤ i → f'[i]? = some a → a ∉ f ∧ a ∉ T.rs) (rh : RH K T' f' H st) : ∀ (k : Nat) (ds : List Dt) (vs : List L2.V) (ds' : List Dt), RVs K T' H f' ds vs → reiL st n k ds = some ds' → RVs K T H f ds' vs
  | k, [], _, ds', .nil, h => by unfold reiL at h; cases h; exact .nil
  | k, d :: r, _, ds', .cons q t, h => by
    unfold reiL at h
    cases h1 : rei st n k d with
    | none => rw [h1] at h; cases h
    | some e =>
      cases h2 : reiL st n k r with
      | none => rw [h1, h2] at h; cases h
      | some es => rw [h1, h2] at h; cases h; exact .cons (rei_ok V hN rh k d _ e q h1) (reiL_ok V hN rh k r _ es t h2)
theorem reiF_ok (V : View K T' f' H T f H n) (hN : ∀ i a, n ≤ i → f'[i]? = some a → a ∉ f ∧ a ∉ T.rs) (rh : RH K T' f' H st) : ∀ (k : Nat) (ds : List (Nat × Dt)) (vs : List (Str × L2.V)) (ds' : List (Nat × Dt)), FR K T' H f' ds vs → reiF st n k ds = some ds' → FR K T H f ds' vs
  | k, [], _, ds', .nil, h => by unfold reiF at h; cases h; exact .nil
  | k, (i, d) :: r, _, ds', .cons q t, h => by
    unfold reiF at h
    cases h1 : rei st n k d with
    | none => rw [h1] at h; cases h
    | some e =>
      cases h2 : reiF st n k r with
      | none => rw [h1, h2] at h; cases h
      | some es => rw [h1, h2] at h; cases h; exact FR.cons' (by rw [Tb.fld, Tb.fld, V.b]) (rei_ok V hN rh k d _ e q h1) (reiF_ok V hN rh k r _ es t h2)
end
end
def puR (st : Sto) (r : Re Dt) : Re Dt := match r with
  | .ok d st2 => match rei st2 0 3 d with
    | some d' => .ok d' st
    | none => .stuck
  | .exc c fs st2 => match reiF st2 0 3 fs with
    | some fs' => .exc c fs' st
    | none => .stuck
  | .stuck => .stuck
def OldOk (st st2 : Sto) : Prop := st.length ≤ st2.length ∧ ∀ i o, i < st.length → st2[i]? = some o → st[i]? = some o ∨ clO st.length o = true
open Classical in
noncomputable def trR (st : Sto) (r : Re Dt) : Re Dt := match r with
  | .ok d st2 => if OldOk st st2 then (match rei st2 st.length 3 d with
    | some d' => .ok d' (st2.take st.length)
    | none => .stuck) else .stuck
  | .exc c fs st2 => if OldOk st st2 then (match reiF st2 st.length 3 fs with
    | some fs' => .exc c fs' (st2.take st.length)
    | none => .stuck) else .stuck
  | .stuck => .stuck
noncomputable def pt (F : MF) : MF := fun ds st => if clL 0 ds then puR st (F ds []) else trR st (F ds st)
section
variable {K : PySem.W.Frag} {T : Tb} {H : Hp} {f : List Addr} {st : Sto} {E : Value → Option Addr → Hp → Prop} {Q : VK} {ds : List Dt} {vs : List V}
abbrev own (T : Tb) (f : List Addr) : Tb := ⟨T.b, f ++ T.rs⟩
theorem view_own (n : Nat) : View K T f H (own T f) [] H 0 := ⟨rfl, fun i a h => absurd h (Nat.not_lt_zero _), fun _ _ h => h, fun _ _ h => h, fun a u h1 h2 e => ⟨e, List.not_mem_nil, fun z => (List.mem_append.mp z).elim h1 h2⟩⟩
theorem RH.own (rh : RH K T f H st) : RH K (LT.own T f) [] H [] := ⟨rfl, List.nodup_nil, fun i o a h => by simp at h, fun a ha => ⟨List.not_mem_nil, by
  rcases List.mem_append.mp ha with z | z
  · obtain ⟨i, hi⟩ := List.mem_iff_getElem?.mp z
    obtain ⟨o, ho⟩ := rh.lt hi
    obtain ⟨u, hu, _⟩ := (rh.obj i o a ho hi).some
    exact ⟨u, hu⟩
  · exact (rh.rsv a z).2⟩⟩
theorem view_home {f' : List Addr} {H' : Hp} : View K (own T f) f' H' T f H' 0 :=
  ⟨rfl, fun i a h => absurd h (Nat.not_lt_zero _), fun _ _ h => h, fun _ _ h => h, fun a u h1 h2 e => ⟨e, fun z => h2 (List.mem_append_left _ z), fun z => h2 (List.mem_append_right _ z)⟩⟩
theorem own_stay {f' : List Addr} {H' : Hp} (s : Stay K (own T f) [] H f' H') : Stay K T f H f H' :=
  ⟨⟨s.t, s.l, fun a u _ _ e => s.any List.not_mem_nil e, fun a h => .inl h⟩, fun a u _ _ e => s.any List.not_mem_nil e⟩
theorem own_rh {f' : List Addr} {H' : Hp} (rh : RH K T f H st) (s : Stay K (own T f) [] H f' H') : RH K T f H' st :=
  ⟨rh.len, rh.nd, fun i o a ho ha => (rh.obj i o a ho ha).keep (List.prefix_refl _) (own_stay s) (by
    obtain ⟨u, hu, _⟩ := (rh.obj i o a ho ha).some
    rw [hu]; exact s.any List.not_mem_nil hu), fun a ha => ⟨(rh.rsv a ha).1, by
    obtain ⟨_, u, hu⟩ := rh.rsv a ha
    exact ⟨u, s.any List.not_mem_nil hu⟩⟩⟩
theorem own_new {f' : List Addr} {H' : Hp} (rh : RH K T f H st) (s : Stay K (own T f) [] H f' H') : ∀ i a, 0 ≤ i → f'[i]? = some a → a ∉ f ∧ a ∉ T.rs := fun i a _ hi => by
  have hn : H a = none := by
    rcases s.n a (mem_of hi) with z | z
    · cases z
    · exact z
  exact rh.free hn
theorem puR_post {r : Re Dt} (rh : RH K T f H st) (p : Post K T (rV K T) E f H (puR st r) Q) : Post K (own T f) (rV K (own T f)) E [] H r Q := by
  cases r with
  | ok d st2 =>
    intro f' H' b hp s rh' rb
    unfold puR at p
    simp only at p
    cases h1 : rei st2 0 3 d with
    | none => rw [h1] at p; exact p.elim
    | some d' =>
      rw [h1] at p
      exact p f H' b (List.prefix_refl _) (own_stay s) (own_rh rh s) (rei_ok view_home (own_new rh s) rh' 3 d b d' rb h1)
  | exc c fs st2 =>
    intro f' H' cls dd hp s rh' xr
    unfold puR at p
    simp only at p
    cases h1 : reiF st2 0 3 fs with
    | none => rw [h1] at p; exact p.elim
    | some fs' =>
      rw [h1] at p
      obtain ⟨e1, ⟨rfl, e2⟩ | ⟨d2, vs, e2, h2, h3⟩⟩ := xr
      · rw [show reiF st2 0 3 [] = some [] by simp [reiF]] at h1
        cases h1
        exact p f H' cls dd (List.prefix_refl _) (own_stay s) (own_rh rh s) ⟨e1, .inl ⟨rfl, e2⟩⟩
      · exact p f H' cls dd (List.prefix_refl _) (own_stay s) (own_rh rh s) ⟨e1, .inr ⟨d2, vs, e2, h2, reiF_ok view_home (own_new rh s) rh' 3 fs vs fs' h3 h1⟩⟩
  | stuck => exact p
theorem tr_view {f' : List Addr} {H' : Hp} (hp : f <+: f') : View K T f' H' T f H' f.length :=
  ⟨rfl, fun i a hi h => by
    obtain ⟨t, rfl⟩ := hp
    rwa [List.getElem?_append_left hi] at h, fun _ _ h => h, fun _ _ h => h, fun a u h1 h2 e => ⟨e, fun z => h1 (hp.subset z), h2⟩⟩
theorem tr_new {f' : List Addr} {H' : Hp} {st2 : Sto} (hp : f <+: f') (rh' : RH K T f' H' st2) : ∀ i a, f.length ≤ i → f'[i]? = some a → a ∉ f ∧ a ∉ T.rs := fun i a hi h => by
  refine ⟨fun z => ?_, fun z => (rh'.rsv a z).1 (mem_of h)⟩
  obtain ⟨j, hj⟩ := List.mem_iff_getElem?.mp z
  have hlt := (List.getElem?_eq_some_iff.mp hj).1
  exact rh'.ne h (get_pre hp hj) (by omega) rfl
theorem tr_rh {f' : List Addr} {H' : Hp} {st2 : Sto} (hp : f <+: f') (rh : RH K T f H st) (rh' : RH K T f' H' st2) (ok : OldOk st st2) : RH K T f H' (st2.take st.length) := by
  refine ⟨?_, rh.nd, fun i o a ho ha => ?_, fun a ha => ⟨fun z => (rh'.rsv a ha).1 (hp.subset z), (rh'.rsv a ha).2⟩⟩
  · rw [List.length_take, rh.len]; have := ok.1; omega
  · have hi : i < st.length := by rw [← rh.len]; exact (List.getElem?_eq_some_iff.mp ha).1
    rw [List.getElem?_take_of_lt hi] at ho
    have r := rh'.obj i o a ho (get_pre hp ha)
    refine r.view (tr_view hp) rfl ?_
    rcases ok.2 i o hi ho with q | q
    · exact (rh.obj i o a q ha).closed
    · rw [rh.len]; exact q
theorem tr_stay {f' : List Addr} {H' : Hp} (hp : f <+: f') (s : Stay K T f H f' H') : Stay K T f H f H' := ⟨⟨s.t, s.l, s.o, fun a h => .inl h⟩, s.r⟩
theorem trR_post {r : Re Dt} (rh : RH K T f H st) (p : Post K T (rV K T) E f H (trR st r) Q) : Post K T (rV K T) E f H r Q := by
  cases r with
  | ok d st2 =>
    intro f' H' b hp s rh' rb
    unfold trR at p
    simp only at p
    split at p
    · rename_i ok
      cases h1 : rei st2 st.length 3 d with
      | none => rw [h1] at p; exact p.elim
      | some d' =>
        rw [h1] at p
        rw [← rh.len] at h1
        exact p f H' b (List.prefix_refl _) (tr_stay hp s) (tr_rh hp rh rh' ok) (rei_ok (tr_view hp) (tr_new hp rh') rh' 3 d b d' rb h1)
    · exact p.elim
  | exc c fs st2 =>
    intro f' H' cls dd hp s rh' xr
    unfold trR at p
    simp only at p
    split at p
    · rename_i ok
      cases h1 : reiF st2 st.length 3 fs with
      | none => rw [h1] at p; exact p.elim
      | some fs' =>
        rw [h1] at p
        rw [← rh.len] at h1
        obtain ⟨e1, ⟨rfl, e2⟩ | ⟨d2, vs, e2, h2, h3⟩⟩ := xr
        · rw [show reiF st2 f.length 3 [] = some [] by simp [reiF]] at h1
          cases h1
          exact p f H' cls dd (List.prefix_refl _) (tr_stay hp s) (tr_rh hp rh rh' ok) ⟨e1, .inl ⟨rfl, e2⟩⟩
        · exact p f H' cls dd (List.prefix_refl _) (tr_stay hp s) (tr_rh hp rh rh' ok) ⟨e1, .inr ⟨d2, vs, e2, h2, reiF_ok (tr_view hp) (tr_new hp rh') rh' 3 fs vs fs' h3 h1⟩⟩
    · exact p.elim
  | stuck => exact p
theorem pt_post {F : MF} (rv : RVs K T H f ds vs) (rh : RH K T f H st) (p : Post K T (rV K T) E f H (pt F ds st) Q) : ∃ rs f0 st0, RVs K ⟨T.b, rs⟩ H f0 ds vs ∧ RH K ⟨T.b, rs⟩ f0 H st0 ∧ Post K ⟨T.b, rs⟩ (rV K ⟨T.b, rs⟩) E f0 H (F ds st0) Q := by
  unfold pt at p
  split at p
  · rename_i hc
    exact ⟨f ++ T.rs, [], [], rv.view (view_own 0) hc, rh.own, puR_post rh p⟩
  · exact ⟨T.rs, f, st, rv, rh, trR_post rh p⟩
theorem spF_pt {B : Tz} {n : Nat} {F : MF} {vs : List V} {H : Hp} {Q : VK} {E : XK} (h : spF K B n (pt F) vs H Q E) : spF K B n F vs H Q E := by
  obtain ⟨hn, rs, f, ds, st, rv, rh, p⟩ := h
  obtain ⟨rs', f0, st0, h1, h2, h3⟩ := pt_post rv rh p
  exact ⟨hn, rs', f0, ds, st0, h1, h2, h3⟩
end
section
variable {P : Program} {w : World} {K : PySem.W.Frag} {mg : Str → Option Value} {base : Heap} {B : Tz}
theorem fn_pt {f : Addr} {fd : FuncData} {ps : List Str} {k n : Nat} {F : MF} (G : FnOk P w K mg base (L2.CX P w) k f fd ps (spF K B n F)) : FnOk P w K mg base (L2.CX P w) k f fd ps (spF K B n (pt F)) :=
  G.imp fun vs H Q E h => spF_pt h
end
noncomputable def mMakeV (c n : Nat) (F : MF) (a : MA) (dv : List Dt) : ME := fun env st => (a env st).bind fun ds st1 => if ds.length + dv.length + 1 = n then pt (newF c F) (ds ++ dv) st1 else .stuck
section
variable {X : Cx} {T : Tb} {W : WX} {C f : Addr} {k n c mk : Nat} {fd : FuncData} {ps : List Str} {F : MF} {dfs : List Value} {dv : List Dt} {dvs : List V} {m x : Str} {o e : Expr} {es : List Expr} {mo : ME} {ms : MA} {apos pos p : Pos}
end
end LT
set_option Elab.async false
set_option linter.all false
set_option maxRecDepth 100000
namespace LT
open PySem PySem.Spec PyProof.Rows L2
def mBM (chk : Dt → Sto → Bool) (g : Dt → List Dt → Sto → Re Dt) (o : ME) (a : MA) : ME := fun env st => (o env st).bind fun x st1 => if chk x st1 then (a env st1).bind fun ds st2 => g x ds st2 else .stuck
def mBM0 (chk : Dt → Sto → Bool) (g : Dt → List Dt → Sto → Re Dt) (o : ME) : ME := fun env st => (o env st).bind fun x st1 => if chk x st1 then g x [] st1 else .stuck
def isL (x : Dt) (st : Sto) : Bool := (lstD x st).isSome
def Chk (K : PySem.W.Frag) (T : Tb) (Ty : String) (chk : Dt → Sto → Bool) : Prop := ∀ (f : List Addr) (H : Hp) (st : Sto) (x : Dt) (v : V), RH K T f H st → RV K T H f x v → chk x st = true → tyV K Ty v H
def SndM (K : PySem.W.Frag) (T : Tb) (r : V → List V → Hp → VK → Prop) (g : Dt → List Dt → Sto → Re Dt) : Prop := ∀ (f : List Addr) (H : Hp) (st : Sto) (x : Dt) (v : V) (xs : List Dt) (vs : List V) (Wx : Value → Option Addr → Hp → Prop) (Q : VK),
  RH K T f H st → RV K T H f x v → RVs K T H f xs vs → Post K T (rV K T) Wx f H (g x xs st) Q → r v vs H Q
section
variable {X : Cx} {T : Tb} {W : WX} {o e : Expr} {es : List Expr} {mo me : ME} {ms : MA} {name : Str} {apos cpos pos : Pos} {Ty id : String} {r : V → List V → Hp → VK → Prop} {chk : Dt → Sto → Bool} {g : Dt → List Dt → Sto → Re Dt} {K : PySem.W.Frag}
theorem chk_list : Chk K T "list" isL := fun f H st x v rh rx h => by
  unfold isL at h
  obtain ⟨xs, hx⟩ := Option.isSome_iff_exists.mp h
  obtain ⟨a, vs, rfl, hs, _⟩ := lstD_ok rh rx hx
  exact .inl ⟨rfl, _, hs⟩
theorem ie_bm (pa : PlainAttrs Ty) (slot : Slot Ty name id) (hty : typeOf (.builtin id) = pure (.type "method_descriptor")) (hm : MtR X id r) (hc : Chk X.K T Ty chk) (hg : SndM X.K T r g) (ho : IE X T W o mo) (ha : IA X T W (e :: es) ms)
    (hbase : attributeBase o name X.env (eval o X.env) = eval o X.env := by rfl)
    (hfew : ((backTo cpos (starEach (e :: es) X.env)).all (fun x => !x.1) && (backToKw cpos (keywordEach [] X.env)).all (fun x => x.1.isSome) && decide ((e :: es).length + ([] : List Keyword).length + (if ([] : List Keyword).isEmpty then 0 else 1) < 30)) = true := by rfl)
    (hline : (apos.endLine == cpos.line) = true := by rfl) (hs : starEach (e :: es) X.env = (false, eval e X.env) :: starEach es X.env := by rfl) (hplain : (backTo cpos (starEach es X.env)).any (·.1) = false := by rfl) :
    IE X T W (.Call (.Attribute o name apos) (e :: es) [] cpos) (mBM chk g mo ms) := PEw (pe_bm pa slot hty hm ho ha hbase hfew hline hs hplain) fun σ H Q ⟨f, env, st, re, rh, p⟩ =>
  ⟨f, env, st, re, rh, p.bind fun x st1 f1 H1 vx hp s rh1 rx p1 => by
    split at p1
    · rename_i hk
      exact ⟨hc _ _ _ _ _ rh1 rx hk, f1, env, st1, re.mono hp s, rh1, p1.bind fun ds st2 f2 H2 vs hp2 s2 rh2 rv p2 => hg f2 H2 st2 x vx ds vs _ _ rh2 (rx.mono hp2 s2) rv p2⟩
    · exact p1.elim⟩
def appendD (x : Dt) (ys : List Dt) (st : Sto) : Re Dt := match x, ys with
  | .ref i, [y] => match st[i]? with
    | some (.lst xs) => if xs.length < lim then .ok .non (st.set i (.lst (xs ++ [y]))) else .stuck
    | _ => .stuck
  | _, _ => .stuck
theorem snd_append : SndM K T rAppend appendD := fun f H st x v xs vs Wx Q rh rx r p => by
  cases rx with
  | @ref i a hi =>
    cases r with
    | nil => exact p.elim
    | cons ry t =>
      cases t with
      | cons _ _ => exact p.elim
      | nil =>
        obtain ⟨o, ho⟩ := rh.lt hi
        simp only [appendD, ho] at p
        cases o with
        | lst zs =>
          simp only at p
          split at p
          · rename_i hl
            obtain ⟨vs, h1, h2⟩ := rh.lst hi ho
            exact ⟨a, vs, _, rfl, rfl, h1, by rw [← h2.len]; exact lim_lt hl, put_ob p rh hi ho ⟨_, upd_same, (h2.app (.one ry)).mono (List.prefix_refl _) ((rh.obj _ _ _ ho hi).stay (mem_of hi) _)⟩ .non⟩
          · exact p.elim
        | _ => exact p.elim
  | _ => exact p.elim
def extendD (x : Dt) (ys : List Dt) (st : Sto) : Re Dt := match x, ys with
  | .ref i, [y] => match st[i]?, lsD y st with
    | some (.lst xs), some zs => if xs.length + zs.length ≤ lim then .ok .non (st.set i (.lst (xs ++ zs))) else .stuck
    | _, _ => .stuck
  | _, _ => .stuck
theorem snd_extend : SndM K T rExtend extendD := fun f H st x v xs vs Wx Q rh rx r p => by
  cases rx with
  | @ref i a hi =>
    cases r with
    | nil => exact p.elim
    | cons ry t =>
      cases t with
      | cons _ _ => exact p.elim
      | nil =>
        rename_i y vy
        obtain ⟨o, ho⟩ := rh.lt hi
        simp only [extendD, ho] at p
        cases o <;> first | exact p.elim | skip
        cases h5 : lsD y st with
        | none => rw [h5] at p; exact p.elim
        | some zs =>
          rw [h5] at p
          simp only at p
          obtain ⟨b, ws, rfl, h3, h4⟩ := lsD_ok rh ry h5
          split at p
          · rename_i hl
            obtain ⟨vs, h1, h2⟩ := rh.lst hi ho
            rw [h2.len, h4.len] at hl
            exact ⟨a, b, vs, ws, rfl, rfl, h1, h3, lim_le hl, put_ob p rh hi ho ⟨_, upd_same, (h2.app h4).mono (List.prefix_refl _) ((rh.obj _ _ _ ho hi).stay (mem_of hi) _)⟩ .non⟩
          · exact p.elim
  | _ => exact p.elim
def keyEq : Dt → Dt → Bool
  | .int i, .int j => decide (i = j)
  | .str a, .str b => decide (a = b)
  | _, _ => false
def lookD (k : Dt) : List (Dt × Dt) → Option Dt
  | [] => none
  | (q, d) :: r => if keyEq q k then some d else lookD k r
def putD (k d : Dt) (ks : List (Dt × Dt)) : List (Dt × Dt) := if ks.any (fun p => keyEq p.1 k) then ks.map (fun p => if keyEq p.1 k then (p.1, d) else p) else ks ++ [(k, d)]
theorem keyEq_ok : ∀ {a b : Dt} {p q : Key}, KR a p → KR b q → keyEq a b = decide (p = q)
  | .int i, .int j, .inl p, .inl q, h1, h2 => by
    cases (show i = p from h1)
    cases (show j = q from h2)
    rw [key_ll]
    exact (Bool.beq_eq_decide_eq (α := Int) i j).symm
  | .str a, .str b, .inr p, .inr q, h1, h2 => by
    rw [key_rr]
    show decide (a = b) = decide (p = q)
    rw [← (show p.cps.toList = a from h1), ← (show q.cps.toList = b from h2), ← dec_strL]
    by_cases e : p = q
    · subst e; simp
    · rw [decide_eq_false e, decide_eq_false (fun z => e (V.str.inj z))]
  | .int i, .str b, .inl p, .inr q, _, _ => (key_lr p q).symm
  | .str b, .int i, .inr p, .inl q, _, _ => (key_rl p q).symm
  | .int _, _, .inr _, _, h, _ => h.elim
  | .str _, _, .inl _, _, h, _ => h.elim
  | _, .int _, _, .inr _, _, h => h.elim
  | _, .str _, _, .inl _, _, h => h.elim
  | .non, _, _, _, h, _ => h.elim
  | .bl _, _, _, _, h, _ => h.elim
  | .tup _, _, _, _, h, _ => h.elim
  | .rl _, _, _, _, h, _ => h.elim
  | .ref _, _, _, _, h, _ => h.elim
  | .int _, .non, .inl _, _, _, h => h.elim
  | .int _, .bl _, .inl _, _, _, h => h.elim
  | .int _, .tup _, .inl _, _, _, h => h.elim
  | .int _, .rl _, .inl _, _, _, h => h.elim
  | .int _, .ref _, .inl _, _, _, h => h.elim
  | .str _, .non, .inr _, _, _, h => h.elim
  | .str _, .bl _, .inr _, _, _, h => h.elim
  | .str _, .tup _, .inr _, _, _, h => h.elim
  | .str _, .rl _, .inr _, _, _, h => h.elim
  | .str _, .ref _, .inr _, _, _, h => h.elim
def dkD (x : Dt) (st : Sto) : Option (List (Dt × Dt)) := match x with
  | .dv kvs => some kvs
  | .ref n => match st[n]? with
    | some (.dk kvs) => some kvs
    | _ => none
  | _ => none
def mKey (o i : ME) : ME := fun env st => (o env st).bind fun x st1 => (i env st1).bind fun y st2 => match dkD x st2 with
  | some kvs => match lookD y kvs with
    | some d => .ok d st2
    | none => .stuck
  | none => .stuck
def isKey : Dt → Bool
  | .int _ => true
  | .str _ => true
  | _ => false
theorem DR.any {f : List Addr} {H : Hp} {k : Dt} {q : Key} (hk : KR k q) : ∀ {ks : List (Dt × Dt)} {vs : List (Key × V)}, DR K T H f ks vs → (ks.any fun p => keyEq p.1 k) = vs.any fun kv => decide (kv.1 = q)
  | _, _, .nil => rfl
  | _, _, .cons hk' _ t => by
    rw [List.any_cons, List.any_cons, keyEq_ok hk' hk, DR.any hk t]
theorem DR.map {f : List Addr} {H : Hp} {k d : Dt} {q : Key} {v : V} (hk : KR k q) (hd : RV K T H f d v) : ∀ {ks : List (Dt × Dt)} {vs : List (Key × V)}, DR K T H f ks vs → DR K T H f (ks.map fun p => if keyEq p.1 k then (p.1, d) else p) (vs.map fun kv => if kv.1 = q then (kv.1, v) else kv)
  | _, _, .nil => .nil
  | _, _, @DR.cons _ _ _ _ k' d' q' v' fs vs hk' h' t => by
    rw [List.map_cons, List.map_cons, keyEq_ok hk' hk]
    by_cases e : q' = q
    · rw [decide_eq_true e, if_pos rfl, if_pos e]
      exact .cons hk' hd (DR.map hk hd t)
    · rw [decide_eq_false e, if_neg Bool.false_ne_true, if_neg e]
      exact .cons hk' h' (DR.map hk hd t)
theorem DR.app {f : List Addr} {H : Hp} : ∀ {ks ls : List (Dt × Dt)} {vs ws : List (Key × V)}, DR K T H f ks vs → DR K T H f ls ws → DR K T H f (ks ++ ls) (vs ++ ws)
  | _, _, _, _, .nil, s => s
  | _, _, _, _, .cons hk h t, s => .cons hk h (DR.app t s)
def sKeySet (o i v : ME) : MS := fun env st => (v env st).on env fun d st1 => (o env st1).on env fun x st2 => (i env st2).on env fun y st3 => match x with
  | .ref n => match st3[n]? with
    | some (.dk kvs) => if isKey y && decide (kvs.length < lim) then .nx env (st3.set n (.dk (putD y d kvs))) else .stuck
    | _ => .stuck
  | _ => .stuck
end
end LT
set_option Elab.async false
set_option linter.all false
set_option maxRecDepth 100000
namespace LT
open PySem PySem.Spec PyProof.Rows L2
section
variable {X : Cx} {T : Tb} {W : WX} {e : Expr} {me : ME} {pos p : Pos} {K : PySem.W.Frag}
inductive RPs (K : PySem.W.Frag) (T : Tb) (H : Hp) (f : List Addr) : List (Dt × Dt) → List (V × V) → Prop
  | nil : RPs K T H f [] []
  | cons {a b : Dt} {x y : V} {ds : List (Dt × Dt)} {vs : List (V × V)} (h1 : RV K T H f a x) (h2 : RV K T H f b y) (t : RPs K T H f ds vs) : RPs K T H f ((a, b) :: ds) ((x, y) :: vs)
def mPairs : List (ME × ME) → M (List (Dt × Dt))
  | [], _, st => .ok [] st
  | (a, b) :: r, env, st => (a env st).bind fun x st1 => (b env st1).bind fun y st2 => (mPairs r env st2).bind fun ps st3 => .ok ((x, y) :: ps) st3
def mergeD (ps : List (Dt × Dt)) : List (Dt × Dt) := ps.foldl (fun acc q => putD q.1 q.2 acc) []
def mDisp (prs : List (ME × ME)) : ME := fun env st => (mPairs prs env (st ++ [.dk []])).bind fun ps st1 => match st1[st.length]? with
  | some (.dk []) => if ps.all (fun q => isKey q.1) && decide (ps.length ≤ 15) then .ok (.ref st.length) (st1.set st.length (.dk (mergeD ps))) else .stuck
  | _ => .stuck
inductive Tk where
  | non | bl | int | str | tup | lst | dk | ins (c : Nat)
def tkD : Dt → Sto → Option Tk
  | .non, _ => some .non
  | .bl _, _ => some .bl
  | .int _, _ => some .int
  | .str _, _ => some .str
  | .tup _, _ => some .tup
  | .rl _, _ => some .lst
  | .li _, _ => some .lst
  | .dv _, _ => some .dk
  | .ob c _, _ => some (.ins c)
  | .cl _, _ => none
  | .dn _, _ => none
  | .er _ _, _ => none
  | .ref i, st => match st[i]? with
    | some (.lst _) => some .lst
    | some (.dk _) => some .dk
    | some (.ins c _) => some (.ins c)
    | some (.dn _) => none
    | none => none
def tkV (T : Tz) : Tk → Value
  | .non => .type "NoneType"
  | .bl => .type "bool"
  | .int => .type "int"
  | .str => .type "str"
  | .tup => .type "tuple"
  | .lst => .type "list"
  | .dk => .type "dict"
  | .ins c => .ref (T.cls c)
structure InsT (K : PySem.W.Frag) (C : Addr) : Prop where
  cl : Cls K C
  ha : PySem.W.findIn K (.ref C) "__class__" = some (some (.builtin "object.__class__"))
  hn : PySem.W.specialIn K (.builtin "object.__class__") "__get__" = some (some (.builtin "getset_descriptor.__get__"))
  ht : PySem.W.takesIn K (.builtin "object.__class__") = some true
  hm : PySem.W.mroIn K C (.type "object") = some true
def mIsI (q : Tk → Option Bool) (a : ME) : ME := fun env st => (a env st).bind fun x st1 => match tkD x st1 with
  | some t => match q t with
    | some b => .ok (.bl b) st1
    | none => .stuck
  | none => .stuck
def spErr (K : PySem.W.Frag) (fn : Str) : Sp := fun vs H Q _ => ∃ a C v, vs = [.ref a, v] ∧ OexC K C ∧ PySem.W.findIn K (.ref C) fn = some none ∧ H a = some (exo a C none) ∧ ∀ dx, H dx = none → dx ≠ a → Q .non (upd (upd H dx (exd dx [(fn, v)])) a (exo a C (some dx)))
theorem pe_binit {pl : Sem Bool} {x : Str} {C0 : Addr} {e : Expr} {es : List Expr} {ta : TA} {p1 p2 : Pos} (hg : Gl X x) (hm : X.mg x = some (.ref C0)) (hga : PySem.W.specialIn X.K (.ref C0) "__getattribute__" = some (some (.builtin "type.__getattribute__"))) (hr : PySem.W.readsIn X.K C0 (.type "type") = true)
    (hty : PySem.W.typeIn X.K (.ref C0) = some (.type "type"))
    (vV : PySem.W.findCls X.K (.ref C0) (.type "type") "__init__" = some (.val (.builtin "ValueError.__init__"))) (ha : PA X (e :: es) ta) (hdb : (x == ("__debug__" : Str)) = false := by decide)
    (hc : eval (.Call (.Attribute (.Name x p1) "__init__" p2) (e :: es) [] pos) X.env = (do
      let ov ← eval (.Name x p1) X.env
      standAt p2.atName
      let (f, first) ← holding [ov] (getMethod ov "__init__" pl)
      callWith pos f first (backTo pos (starEach (e :: es) X.env)) (backToKw pos (keywordEach [] X.env))) := by rfl)
    (he : starEach (e :: es) X.env = (false, eval e X.env) :: starEach es X.env := by rfl) (hpl : (backTo pos (starEach es X.env)).any (·.1) = false := by rfl) :
    PE X (.Call (.Attribute (.Name x p1) "__init__" p2) (e :: es) [] pos) (tVeI X.K ta) := ⟨fun pins s σ H Q I h => by
  refine PySem.W.methodCall_KW (ld_glob I hg hm ?_ hdb) hc
  refine PySem.W.method_cls I.kIn hga ?_
  refine PySem.W.cls_value I.kIn hr vV (by decide +kernel) ?_
  refine PyProof.Rows.callWith_method1 (thn (ha.run pos pins _ σ H _ (I.tok _) h) fun us s1 hu => ?_) he hpl
  obtain ⟨vs, H1, J, r1, a, C, ws, ev, hl, Tc, ea, q⟩ := hu
  subst ev
  cases r1 with
  | @cons _ u0 _ ur ra rw' =>
    obtain rfl : u0 = Value.ref a := ra
    exact oinit_ok Tc J ea (by rw [← Paired.length rw', sizeLine_eq]; omega) fun s' J' => ⟨.non, H1, J', rfl, q⟩⟩
end
end LT
set_option Elab.async false
set_option linter.all false
set_option maxRecDepth 100000
set_option maxHeartbeats 4000000
namespace PySem.W
open PySem.Calls PyProof.Rows
section
variable {K : Frag} {prog : Program} {w : World} {A : Around} {E : Value → Shared → Prop} {D x : Addr} {ox od : Obj} {s : Shared}
theorem lt_classE {Q : Option Value → Shared → Prop} (g1 : findIn K (.ref D) "__getattribute__" = some (some (.builtin "BaseException.__getattribute__"))) (g2 : findIn K (.ref D) "__getattr__" = some none) (g3 : subIn K (.ref D) (.type "BaseException") = some true)
    (g4 : hasDictIn K D = true) (g5 : findIn K (.ref D) "__class__" = some (some (.builtin "object.__class__"))) (g6 : specialIn K (.builtin "object.__class__") "__get__" = some (some (.builtin "getset_descriptor.__get__"))) (g7 : takesIn K (.builtin "object.__class__") = some true)
    (g8 : mroIn K D (.type "object") = some true) (KX : K.In s.heap) (J : InstAt s.heap x ox D (some od)) (q : Q (some (.ref D)) { s with toks := s.toks + 1 }) : wpAny (model prog w) A (getAttr? (.ref x) "__class__") Q E s := by
  have hcl : (clsIn K D).isSome = true := by
    obtain ⟨cd, hc, _⟩ := any_some g4
    rw [hc]
    rfl
  have found : findObj K D (some od) "__class__" = some (.bind (.builtin "getset_descriptor.__get__") (.builtin "object.__class__")) := findObj_data hcl g5 g6 g7
  obtain ⟨hp, gs, dr, tk, os⟩ := s
  have T0 := J.type (M := model prog w)
  have T1 := looks_findIn (M := model prog w) KX g1
  have T2 := looks_findIn (M := model prog w) KX g2
  have T3 := looks_find (M := model prog w) KX J found
  have isB : Looks (model prog w) hp (isInstance (.ref x) (.type "BaseException")) true := T0.andThen (looks_subIn KX g3)
  have no0 : (false && onTheHeap (Value.builtin "BaseException.__getattribute__")) = false := rfl
  have no1 : (onTheHeap (Value.ref D) && Value.builtin "BaseException.__getattribute__" == Value.builtin "object.__getattribute__") = false := by
    rw [show (Value.builtin "BaseException.__getattribute__" == Value.builtin "object.__getattribute__") = false by decide +kernel, Bool.and_false]
  unfold getAttr? getAttrBy? getAttrBy
  refine wpAny_bind (wpAny_mkText (wpAny_bind (wpAny_attempt (wpAny_holding (wpAny_bind (T0.at (wpAny_bind (T1.at ?_))))))))
  change wpAny _ _ (if (onTheHeap (Value.ref D) && Value.builtin "BaseException.__getattribute__" == Value.builtin "object.__getattribute__") = true then _ else _) _ _ _
  rw [no1, if_neg Bool.false_ne_true]
  unfold getAttrByItsOwn hookBefore
  apply wpAny_bind
  rw [if_pos (show onTheHeap (Value.ref D) = true from rfl)]
  apply T2.at
  refine wpAny_bind (wpAny_attempt (wpAny_holding ?_))
  unfold callGetattribute
  rw [no0, if_neg Bool.false_ne_true]
  unfold boundAndCalled
  rw [PySem.F.excAttr_ValueError.ga.bind (.ref x)]
  refine wpAny_bind (wpAny_pure ?_)
  change wpAny _ _ (call (.builtin "BaseException.__getattribute__") [.ref x, .str "__class__" tk]) _ _ _
  refine wpAny_call (codeAny_call_builtin PySem.F.excAttr_ValueError.ga.plain PySem.F.entry_bexc_ga (@check_slot (model prog w) _ _ ⟨hp, gs, dr, tk + 1, os⟩ "BaseException.__getattribute__" "BaseException" "__getattribute__" (.ref x) [.str "__class__" tk] [] _ (by decide +kernel) (by decide +kernel) isB (PySem.F.args_bexc_ga (.ref x) (.str "__class__" tk)) ?_))
  unfold Builtin.«object.__getattribute__»
  refine wpAny_bind (wpAny_of_eq (a := ((Value.ref x : Value), [Value.str "__class__" tk])) (by first | rfl | (simp only [slotArgs]; rfl)) (wpAny_bind (wpAny_pure (wpAny_bind (T0.at (wpAny_bind (T3.at ?_)))))))
  change wpAny _ _ (holding [Value.builtin "object.__class__"] (call (.builtin "getset_descriptor.__get__") [.builtin "object.__class__", .ref x, .ref D]) >>= ret) _ _ _
  refine wpAny_bind (wpAny_holding (wpAny_call (class_get (s := ⟨hp, gs, dr, tk + 1, os⟩) (ox := ox) (od := some od) KX J g8 ?_)))
  apply wpAny_pure
  change wpAny _ _ (handedOut (.ref D)) _ _ _
  rw [handedOut_of (v := .ref D) rfl]
  first
    | exact wpAny_pure (wpAny_pure q)
    | exact wpAny_pure q
    | exact wpAny_pure (wpAny_bind (wpAny_pure (wpAny_pure q)))
theorem lt_kitE (C : L2.ExcC K D) : KitX K (.ref x) (.ref D) (fun h => InstAt h x ox D (some od)) where
  ty := fun _ _ _ I => I.type
  it := fun _ _ KX _ => by
    obtain ⟨cd, hc, _⟩ := any_some C.hd
    unfold clsIn at hc
    split at hc
    · rename_i ho
      intro A' Q' E' s' k q
      unfold isType loadHead
      exact wpAny_bind (wpAny_loadPart (k _ _ (KX _ _ ho)) (wpAny_pure q))
    · cases hc
  ne := fun h tp dd its n sl KX htp => by
    obtain ⟨cd, hc, _⟩ := any_some C.hd
    refine Bool.eq_false_iff.mpr fun q => ?_
    have e : D = tp := Value.ref.inj (beq_iff_eq.mp q)
    subst e
    unfold clsIn at hc
    split at hc
    · rename_i ho
      have z := (KX _ _ ho).symm.trans htp
      cases z
    · cases hc
  ca := fun KX I k => lt_classE C.hg C.hk C.hs C.hd C.ha C.hn C.ht C.hm KX I k
end
end PySem.W
namespace LT
open PySem PySem.Spec PyProof.Rows L2
section
variable {X : Cx} {T : Tb} {W : WX} {e : Expr} {me : ME} {pos p p' : Pos}
def sRaise (c k : Nat) (a : ME) : MS := fun env st => (a env st).on env fun d st1 => .ex env c [(k, d)] st1
end
end LT
set_option Elab.async false
set_option linter.all false
set_option maxRecDepth 100000
namespace LT
open PySem PySem.Spec PyProof.Rows L2
section
variable {X : Cx} {T : Tb} {W : WX}
end
end LT
set_option Elab.async false
set_option linter.all false
set_option maxRecDepth 100000
namespace LT
open PySem PySem.Spec PyProof.Rows L2
structure DefOk (P : Program) (w : World) (K : PySem.W.Frag) (mg : Str → Option Value) (base : Heap) (B : Tz) (x : Str) (k n : Nat) (F : MF) (dv : List Dt) : Prop where
  ex : ∃ f fd ps dfs dvs, mg x = some (.ref f) ∧ PySem.W.keepIn K (.ref f) = true ∧ Binds K fd ps dfs ∧ Vals dvs dfs ∧ (∀ rs H f, RVs K ⟨B, rs⟩ H f dv dvs) ∧ FnOk P w K mg base (L2.CX P w) k f fd ps (spF K B n F)
structure MakeOk (P : Program) (w : World) (K : PySem.W.Frag) (mg : Str → Option Value) (base : Heap) (B : Tz) (x : Str) (c k n : Nat) (F : MF) (dv : List Dt) : Prop where
  ex : ∃ f fd ps dfs dvs, Mk K (B.cls c) f ∧ mg x = some (.ref (B.cls c)) ∧ Binds K fd ps dfs ∧ Vals dvs dfs ∧ (∀ rs H f, RVs K ⟨B, rs⟩ H f dv dvs) ∧ FnOk P w K mg base (L2.CX P w) k f fd ps (spF K B n F)
structure MethOk (P : Program) (w : World) (K : PySem.W.Frag) (mg : Str → Option Value) (base : Heap) (B : Tz) (m : Str) (c mk k n : Nat) (F : MF) (dv : List Dt) : Prop where
  nm : B.fld mk = m
  ex : ∃ f fd ps dfs dvs, Cls K (B.cls c) ∧ Meth K (B.cls c) m f ∧ Binds K fd ps dfs ∧ Vals dvs dfs ∧ (∀ rs H f, RVs K ⟨B, rs⟩ H f dv dvs) ∧ FnOk P w K mg base (L2.CX P w) k f fd ps (spF K B n F)
structure ErrOk (P : Program) (w : World) (K : PySem.W.Frag) (mg : Str → Option Value) (base : Heap) (B : Tz) (x fn : Str) (c k j : Nat) : Prop where
  nm : B.fld k = fn
  mgC : mg x = some (.ref (B.cls c))
  ox : OexC K (B.cls c)
  no : PySem.W.findIn K (.ref (B.cls c)) fn = some none
  ex : ∃ fI fd, PySem.W.findIn K (.ref (B.cls c)) "__init__" = some (some (.ref fI)) ∧ PySem.W.typeIn K (.ref fI) = some (.type "function") ∧ Binds K fd ["self", fn] [] ∧ FnOk P w K mg base (L2.CX P w) j fI fd ["self", fn] (spErr K fn)
structure FldOk (K : PySem.W.Frag) (B : Tz) (cs : List Nat) (k : Nat) (fn : Str) : Prop where
  nm : B.fld k = fn
  ok : ∀ c, cs.contains c = true → Cls K (B.cls c) ∧ NoAttr K (B.cls c) fn
structure ConstOk (K : PySem.W.Frag) (mg : Str → Option Value) (x : Str) (d : Dt) : Prop where
  ex : ∃ u v, mg x = some u ∧ RelV v u ∧ ∀ T H f, RV K T H f d v
section
variable {X : Cx} {T : Tb} {W : WX} {e o : Expr} {es : List Expr} {ms : MA} {me mo : ME} {pos p p' apos : Pos} {k n c mk : Nat} {F : MF} {dv : List Dt} {x m fn : Str}
theorem ie_callD (D : DefOk X.prog X.w X.K X.mg X.base T.b x k n F dv) (hr : Room k X.A) (tk : Takes X W) (ha : IA X T W (e :: es) ms) (hg : Gl X x := by rfl) (hdb : (x == ("__debug__" : Str)) = false := by decide)
    (he : starEach (e :: es) X.env = (false, eval e X.env) :: starEach es X.env := by rfl) (hpl : (backTo pos (starEach es X.env)).any (·.1) = false := by rfl) : IE X T W (.Call (.Name x p) (e :: es) [] pos) (mCall n F ms dv) := by
  obtain ⟨f, fd, ps, dfs, dvs, h1, h2, h3, h4, h5, h6⟩ := D.ex
  exact ie_call h6 hr h1 h2 h3 h4 (h5 T.rs) tk ha hg hdb he hpl
theorem pe_ty {n : String} (hm : X.mg x = none) (hv : bootBuiltins x = some (.type n) := by decide +kernel) (hg : Gl X x := by rfl) (h1 : x ≠ "__name__" := by decide) (hdb : (x == ("__debug__" : Str)) = false := by decide) : PE X (.Name x pos) (tC (.ty n)) := pe_bltn hg hm hv rfl h1 hdb
theorem pe_own {C : Addr} (hm : X.mg x = some (.ref C)) (hg : Gl X x := by rfl) (hdb : (x == ("__debug__" : Str)) = false := by decide) : PE X (.Name x pos) (tC (.ref C)) := pe_glob hg hm rfl hdb
end
section
variable {P : Program} {w : World} {K : PySem.W.Frag} {mg : Str → Option Value} {base : Heap} {B : Tz}
end
def mkFld (tbl : List Str) (i : Nat) : Str := match tbl[i]? with
  | some x => x
  | none => ⟨#[0, i]⟩
def tblOk (tbl : List Str) : Bool := decide tbl.Nodup && tbl.all fun x => decide (x.cps[0]? ≠ some 0)
theorem mkFld_inj {tbl : List Str} (h : tblOk tbl = true) (i j : Nat) (e : mkFld tbl i = mkFld tbl j) : i = j := by
  unfold tblOk at h
  rw [Bool.and_eq_true] at h
  have nd := of_decide_eq_true h.1
  have al := List.all_eq_true.mp h.2
  unfold mkFld at e
  cases hi : tbl[i]? with
  | some x =>
    rw [hi] at e
    cases hj : tbl[j]? with
    | some y =>
      rw [hj] at e
      have e' : x = y := e
      subst e'
      exact (List.getElem?_inj (List.getElem?_eq_some_iff.mp hi).1 nd).mp (hi.trans hj.symm)
    | none =>
      rw [hj] at e
      have e' : x = ⟨#[0, j]⟩ := e
      have := of_decide_eq_true (al x (List.mem_iff_getElem?.mpr ⟨i, hi⟩))
      rw [e'] at this
      exact absurd rfl this
  | none =>
    rw [hi] at e
    cases hj : tbl[j]? with
    | some y =>
      rw [hj] at e
      have e' : (⟨#[0, i]⟩ : Str) = y := e
      have := of_decide_eq_true (al y (List.mem_iff_getElem?.mpr ⟨j, hj⟩))
      rw [← e'] at this
      exact absurd rfl this
    | none =>
      rw [hj] at e
      have e' : (⟨#[0, i]⟩ : Str) = ⟨#[0, j]⟩ := e
      have e2 : #[0, i] = #[0, j] := Str.mk.inj e'
      simpa using e2
end LT
set_option Elab.async false
set_option linter.all false
set_option maxRecDepth 100000
namespace LT
open PySem PySem.Spec PyProof.Rows L2
structure IsB (K : PySem.W.Frag) (T : Tz) (us : List Value) (cs : List Nat) : Prop where
  ok : ∀ c, cs.contains c = true → InsT K (T.cls c) ∧ PySem.W.kitAny K (.ref (T.cls c)) us = some false
section
variable {X : Cx} {T : Tb} {W : WX} {e : Expr} {me : ME} {pos p : Pos}
structure IsO (K : PySem.W.Frag) (mg : Str → Option Value) (T : Tz) (x : Str) (c0 : Nat) (cs : List Nat) : Prop where
  mgC : mg x = some (.ref (T.cls c0))
  me : InsT K (T.cls c0) ∧ PySem.W.kitOne K (.ref (T.cls c0)) (.ref (T.cls c0)) = some true
  ok : ∀ c, c ≠ c0 → cs.contains c = true → InsT K (T.cls c) ∧ PySem.W.kitOne K (.ref (T.cls c)) (.ref (T.cls c0)) = some false
  bt : ∀ t : Tk, (∀ c, t ≠ .ins c) → PySem.W.kitOne K (tkV T t) (.ref (T.cls c0)) = some false
end
end LT
set_option Elab.async false
set_option linter.all false
set_option maxRecDepth 100000
namespace LT
open PySem PySem.Spec PyProof.Rows L2
structure SuOk (K : PySem.W.Frag) (mg : Str → Option Value) (T : Tz) (x xA xB fn : Str) (k : Nat) (m : Nat → Option Bool) (isA isB : Nat → Bool) : Prop where
  nm : T.fld k = fn
  ex : ∃ Cx CA CB, mg x = some (.ref Cx) ∧ mg xA = some (.ref CA) ∧ mg xB = some (.ref CB) ∧ (∀ c, m c = some false → PySem.W.exmOne K (.ref (T.cls c)) (.ref Cx) = some false) ∧
    ∀ c, m c = some true → PySem.W.exmOne K (.ref (T.cls c)) (.ref Cx) = some true ∧ ExcC K (T.cls c) ∧ XfC K (T.cls c) ∧ PySem.W.findIn K (.ref (T.cls c)) fn = some none ∧ PySem.W.kitOne K (.ref (T.cls c)) (.ref CA) = some (isA c) ∧ PySem.W.kitOne K (.ref (T.cls c)) (.ref CB) = some (isB c)
section
variable {X : Cx} {T : Tb} {W : WX}
end
end LT
set_option Elab.async false
set_option linter.all false
set_option maxRecDepth 100000
namespace LT
open PySem PySem.Spec PyProof.Rows L2
structure Xm (M : List Nat) (st st' : Sto) : Prop where
  len : st.length ≤ st'.length
  get : ∀ i, i < st.length → i ∉ M → st'[i]? = st[i]?
theorem Xm.refl {M : List Nat} {st : Sto} : Xm M st st := ⟨Nat.le_refl _, fun _ _ _ => rfl⟩
theorem Xm.trans {M : List Nat} {a b c : Sto} (h : Xm M a b) (k : Xm M b c) : Xm M a c := ⟨Nat.le_trans h.len k.len, fun i hi hm => (k.get i (Nat.lt_of_lt_of_le hi h.len) hm).trans (h.get i hi hm)⟩
theorem Xm.app {M : List Nat} {st g : Sto} : Xm M st (st ++ g) := ⟨by rw [List.length_append]; omega, fun i hi _ => List.getElem?_append_left hi⟩
theorem Xm.mono {M N : List Nat} {a b : Sto} (h : Xm M a b) (hs : ∀ i ∈ M, i ∈ N) : Xm N a b := ⟨h.len, fun i hi hm => h.get i hi fun z => hm (hs i z)⟩
theorem Xm.set {M : List Nat} {st : Sto} {i : Nat} {o : Ob} (h : i ∈ M) : Xm M st (st.set i o) := ⟨by rw [List.length_set]; exact Nat.le_refl _, fun j hj hm => List.getElem?_set_ne fun e => hm (by rw [← e]; exact h)⟩
theorem Xm.setN {M : List Nat} {a b : Sto} {i : Nat} {o : Ob} (h : Xm M a b) (hi : a.length ≤ i) : Xm M a (b.set i o) := ⟨by rw [List.length_set]; exact h.len, fun j hj hm => by rw [List.getElem?_set_ne (by omega)]; exact h.get j hj hm⟩
theorem Xm.at {M : List Nat} {a b : Sto} {i : Nat} {o : Ob} (h : Xm M a b) (ho : a[i]? = some o) (hm : i ∉ M) : b[i]? = some o := by
  rw [h.get i (List.getElem?_eq_some_iff.mp ho).1 hm]
  exact ho
theorem Xm.pure {M : List Nat} {a b : Sto} (h : Xm [] a b) : Xm M a b := h.mono fun i hi => by cases hi
def outF : Rs → Re Dt
  | .nx _ st' => .ok .non st'
  | .rt d st' => .ok d st'
  | .ex _ c fs st' => .exc c fs st'
  | _ => .stuck
theorem runF_out (n : Nat) (m : MS) (ds : List Dt) (st : Sto) : runF n m ds st = outF (m (startE n ds) st) := by
  unfold runF outF
  cases m (startE n ds) st <;> rfl
theorem wTup_item {ds : List Dt} {i : Nat} {d : Dt} {st : Sto} (h : ds[i]? = some d) : (wTup ds).turn i st = .item d := by
  show (match ds[i]? with | some d => Tn.item d | none => Tn.stop) = _
  rw [h]
theorem wTup_stop {ds : List Dt} {st : Sto} : (wTup ds).turn ds.length st = .stop := by
  show (match ds[ds.length]? with | some d => Tn.item d | none => Tn.stop) = _
  rw [List.getElem?_eq_none (Nat.le_refl _)]
theorem wRng_item {lo : Int} {n i : Nat} {st : Sto} (h : i < n) : (wRng lo n).turn i st = .item (.int (lo + i)) := if_pos h
theorem wRng_stop {lo : Int} {n : Nat} {st : Sto} : (wRng lo n).turn n st = .stop := if_neg (Nat.lt_irrefl n)
def told (n : Nat) (p : Nat → Bool) (h : Nat → Dt) : List Dt := ((List.range n).filter p).map h
end LT
set_option Elab.async false
set_option linter.all false
set_option maxRecDepth 100000
namespace LT
open PySem PySem.Spec PyProof.Rows L2
theorem atI_natC {α : Type} {xs : List α} {j : Nat} {x : α} (h : xs[j]? = some x) : atI xs (j : Int) = some x := by
  have hl := (List.getElem?_eq_some_iff.mp h).1
  unfold atI ixN
  rw [if_pos (by omega), if_pos (by omega)]
  simpa using h
end LT
set_option Elab.async false
set_option linter.all false
set_option maxRecDepth 100000
namespace LT
open PySem PySem.Spec PyProof.Rows L2
theorem inB_seq {s : List Nat} {d : Dt} {st : Sto} {ys : List Dt} (h : seqD d st = some ys) (hf : ys.all flatD = true) : inB (.str s) d st = some (ys.any fun z => eqFl z (.str s)) := by
  have e : inB (.str s) d st = (match seqD d st with | some ys => if flatD (.str s) && ys.all flatD then some (ys.any fun z => eqFl z (.str s)) else none | none => none) := by
    unfold inB
    split
    · cases h
    · rfl
  rw [e, h]
  simp only [flatD, hf, Bool.and_self, if_true]
theorem any_strs (s : List Nat) : ∀ (ys : List (List Nat)), ((ys.map Dt.str).any fun z => eqFl z (.str s)) = decide (s ∈ ys)
  | [] => by simp
  | y :: ys => by
    rw [List.map_cons, List.any_cons, any_strs s ys]
    by_cases h : y = s
    · subst h
      simp [eqFl]
    · have h' : ¬ s = y := fun e => h e.symm
      simp [eqFl, h, h']
theorem flat_strs : ∀ (ys : List (List Nat)), (ys.map Dt.str).all flatD = true
  | [] => rfl
  | y :: ys => by rw [List.map_cons, List.all_cons, flat_strs ys]; rfl
theorem in_strs {s : List Nat} {d : Dt} {st : Sto} {ys : List (List Nat)} (h : seqD d st = some (ys.map Dt.str)) : inB (.str s) d st = some (decide (s ∈ ys)) := by
  rw [inB_seq h (flat_strs ys), any_strs]
end LT
set_option Elab.async false
set_option linter.all false
set_option maxRecDepth 100000
namespace LT
open PySem PySem.Spec PyProof.Rows L2
def spLaw (K : PySem.W.Frag) : Sp := fun vs H Q _ => ∃ (a : Addr) (ns : List Int), vs = [.ref a] ∧ SqL K H a (ns.map V.int) ∧ ns.length ≤ 63 ∧ Only H ∧ ∀ H', Q (.bl true) H'
theorem rvs_ints {K : PySem.W.Frag} {T : Tb} {H : Hp} {f : List Addr} : ∀ ns : List Int, RVs K T H f (ns.map Dt.int) (ns.map V.int)
  | [] => .nil
  | n :: ns => .cons (.int n) (rvs_ints ns)
theorem law_imp {K : PySem.W.Frag} {T : Tz} {F : MF} (h : ∀ ns : List Int, ns.length ≤ 63 → ∃ st', F [.rl (ns.map Dt.int)] [] = .ok (.bl true) st') : ∀ vs H Q E, spLaw K vs H Q E → spF K T 1 F vs H Q E := fun vs H Q E hs => by
  obtain ⟨a, ns, rfl, hS, hl, hO, k⟩ := hs
  obtain ⟨st', e⟩ := h ns hl
  have hF : SqF K H a (ns.map V.int) := by
    rcases hS with (z | z) | z
    · rcases hO a with q | ⟨o, xs, q⟩
      · rw [z] at q; cases q
      · rw [z] at q; cases q
    · exact .inl z
    · exact .inr z
  refine ⟨rfl, [], [], [.rl (ns.map Dt.int)], [], .cons (.rl hF (rvs_ints ns)) .nil, ⟨rfl, List.nodup_nil, (fun i o a hi => by cases hi), fun a ha => (List.not_mem_nil ha).elim⟩, ?_⟩
  rw [e]
  exact fun f' H' v hp s rh r => by
    cases r
    exact k _
theorem CX_no (w : World) (P : Program) (H : Hp) (s : Shared) (e : Value) (s' : Shared) (h : L2.CX P w [] H s (fun _ _ _ => False) e s') : False := by
  unfold L2.CX at h
  obtain ⟨_, _, _, _, _, _, _, _, _, _, _, _, h⟩ := h
  exact h
theorem mem_of_contains {cs : List Nat} {c : Nat} (h : cs.contains c = true) : c ∈ cs := by
  simpa using h
theorem contains_one {c k : Nat} (h : [k].contains c = true) : c = k := by
  simpa using h
end LT
set_option Elab.async false
set_option linter.all false
set_option maxRecDepth 100000
namespace LT
open PySem PySem.Spec PyProof.Rows L2
section
variable {X : Cx} {T : Tb} {W : WX} {a b c e o : Expr} {es : List Expr} {pos p : Pos} {ma mb mc me mo : ME} {ms : MA}
def mChain (g h : Dt → Dt → Sto → Re Dt) (ma mb mc : ME) : ME := fun env st => (ma env st).bind fun x s1 => (mb env s1).bind fun y s2 => (g x y s2).bind fun z s3 => match z with
  | .bl true => (mc env s3).bind fun w s4 => h y w s4
  | .bl false => .ok (.bl false) s3
  | _ => .stuck
def mStar (a : ME) (as : MA) : MA := fun env st => (a env st).bind fun x s1 => match seqD x s1 with
  | some xs => (as env s1).bind fun ys s2 => .ok (xs ++ ys) s2
  | none => .stuck
def mFmt (a : ME) : ME := fun env st => (a env st).bind fun x s1 => match x with
  | .str s => if s.length ≤ lim then .ok (.str s) s1 else .stuck
  | _ => .stuck
def mFs : List ME → List Nat → Lo → Sto → Re (List Nat)
  | [], acc, _, st => .ok acc st
  | a :: as, acc, env, st => (a env st).bind fun x s1 => match x with
    | .str s => if acc.length + s.length ≤ lim then mFs as (acc ++ s) env s1 else .stuck
    | _ => .stuck
def mJoined (as : List ME) : ME := fun env st => (mFs as [] env st).bind fun s s1 => .ok (.str s) s1
inductive IJ (X : Cx) (T : Tb) (W : WX) : List Expr → List ME → Prop
  | nil : IJ X T W [] []
  | cons {e : Expr} {m : ME} {es : List Expr} {ms : List ME} (h : IE X T W e m) (r : IJ X T W es ms) : IJ X T W (e :: es) (m :: ms)
end
end LT
set_option Elab.async false
set_option linter.all false
set_option maxRecDepth 100000
namespace LT
open PySem PySem.Spec PyProof.Rows L2
section
variable {K : PySem.W.Frag} {T : Tb}
def strsD : List Dt → Option (List (List Nat))
  | [] => some []
  | .str s :: ds => (strsD ds).map (s :: ·)
  | _ :: _ => none
theorem strsD_map (ss : List (List Nat)) : strsD (ss.map Dt.str) = some ss := by
  induction ss with
  | nil => rfl
  | cons s ss ih => simp only [List.map_cons, strsD, ih]; rfl
def joinD (x : Dt) (ys : List Dt) (st : Sto) : Re Dt := match x, ys with
  | .str a, [y] => match seqD y st with
    | some ds => match strsD ds with
      | some ss => if (ss.map List.length).sum + ss.length * a.length ≤ 16777216 then .ok (.str (TL.joinL a ss)) st else .stuck
      | none => .stuck
    | none => .stuck
  | _, _ => .stuck
def sAug (i : Nat) (g : Dt → Dt → Sto → Re Dt) (a : ME) : MS := fun env st => match env[i]? with
  | some (some x) => (a env st).on env fun y st1 => (g x y st1).on env fun z st2 => .nx (env.set i (some z)) st2
  | _ => .stuck
end
section
variable {X : Cx} {T : Tb} {W : WX} {e : Expr} {me : ME} {pos pos' : Pos}
end
end LT
set_option Elab.async false
set_option linter.all false
set_option maxRecDepth 100000
namespace LT
open PySem PySem.Spec PyProof.Rows L2
section
variable {X : Cx} {T : Tb}
theorem sub_self {k : Nat} (hr : Room k X.A) : Sub X k X.A := ⟨hr, rfl⟩
end
end LT
set_option Elab.async false
set_option linter.all false
set_option maxRecDepth 100000
namespace LT
open PySem PySem.Spec PyProof.Rows L2
section
variable {X : Cx} {T : Tb}
end
end LT
set_option Elab.async false
set_option linter.all false
set_option maxRecDepth 100000
namespace LT
open PySem PySem.Spec PyProof.Rows L2
section
variable {K : PySem.W.Frag} {T : Tb}
def onlyD (q : Dt → Bool) (r : Re Dt) : Re Dt := match r with
  | .ok d st => if q d then .ok d st else .stuck
  | _ => .stuck
def isSt : Dt → Bool
  | .str _ => true
  | _ => false
def clsD (x : Dt) (st : Sto) : Option Nat := (objD x st).map (·.1)
def strOwnD (c : Nat) (F : MF) (xs : List Dt) (st : Sto) : Re Dt := match xs with
  | [x] => if clsD x st = some c then onlyD isSt (F [x] st) else .stuck
  | _ => .stuck
structure EqOk (K : PySem.W.Frag) (T : Tz) (c : Nat) (q : Tk → Bool) : Prop where
  ins : ∀ c', q (.ins c') = true → InsT K (T.cls c')
  nf : ∀ t, q t = true → PySem.W.notFirst K (T.cls c) (tkV T t) = true
end
end LT
set_option Elab.async false
set_option linter.all false
set_option maxRecDepth 100000
namespace LT
open PySem PySem.Spec PyProof.Rows L2
structure SpOk (P : Program) (w : World) (K : PySem.W.Frag) (mg : Str → Option Value) (base : Heap) (T : Tz) (m : Str) (c k n : Nat) (F : MF) : Prop where
  ex : ∃ f fd ps, PySem.W.findIn K (.ref (T.cls c)) m = some (some (.ref f)) ∧ PySem.W.isFn K (.ref f) = true ∧ Binds K fd ps [] ∧ FnOk P w K mg base (L2.CX P w) k f fd ps (spF K T n F)
structure NeOk (K : PySem.W.Frag) (T : Tz) (c : Nat) : Prop where
  ne : PySem.W.findIn K (.ref (T.cls c)) "__ne__" = some (some (.builtin "object.__ne__"))
  ob : PySem.W.mroIn K (T.cls c) (.type "object") = some true
section
variable {X : Cx} {T : Tb} {c k : Nat} {F : MF} {q : Tk → Bool}
end
section
variable {K : PySem.W.Frag} {T : Tb}
end
end LT
set_option Elab.async false
set_option linter.all false
set_option maxRecDepth 100000
namespace LT
open PySem PySem.Spec PyProof.Rows L2
section
variable {X : Cx} {T : Tb} {pos : Pos}
end
end LT
set_option Elab.async false
set_option linter.all false
set_option maxRecDepth 100000
namespace LT
open PySem PySem.Spec PyProof.Rows L2
section
variable {X : Cx} {T : Tb}
structure IaOk (K : PySem.W.Frag) (T : Tz) (c : Nat) : Prop where
  ex : ∃ cd, PySem.W.clsIn K (T.cls c) = some cd ∧ cd.mro = [.ref (T.cls c), .type "object"] ∧ PySem.W.findIn K (.ref (T.cls c)) "__iadd__" = some none ∧ PySem.W.findIn K (.type "object") "__iadd__" = some none
end
end LT
set_option Elab.async false
set_option linter.all false
set_option maxRecDepth 100000
namespace LT
open PySem PySem.SeqAt
open AutoSeq1 (wpAny_loadPart')
open MeetsSeq MeetsSeq2 MeetsSeq3 SeqRoads2
section
variable {prog : Program} {w : World} {A : Around} {R : Result → Shared → Prop}
end
end LT
namespace LT
open PySem PySem.Spec PyProof.Rows L2
section
variable {X : Cx}
end
end LT
set_option Elab.async false
set_option linter.all false
set_option maxRecDepth 100000
namespace LT
open PySem PySem.Spec PyProof.Rows L2
mutual
def plD : Dt → Bool
  | .non => true
  | .bl _ => true
  | .int _ => true
  | .str _ => true
  | .tup xs => plL xs
  | _ => false
def plL : List Dt → Bool
  | [] => true
  | d :: r => plD d && plL r
end
def plF : List (Nat × Dt) → Bool
  | [] => true
  | (_, d) :: r => plD d && plF r
theorem relV_fn {x y : V} {u : Value} (h : RelV x u) (h2 : RelV y u) : x = y := by
  cases x <;> cases y <;> simp only [L2.RelV] at h h2 <;> (try obtain ⟨_, h⟩ := h) <;> (try obtain ⟨_, h2⟩ := h2) <;> simp_all
theorem vals_fn : ∀ {xs ys : List V} {us : List Value}, Vals xs us → Vals ys us → xs = ys
  | _, _, _, .nil, .nil => rfl
  | _, _, _, .cons h t, .cons h2 t2 => by
    rw [vals_fn t t2, relV_fn h h2]
section
variable {X : Cx} {T : Tb} {pins : List (Addr × Obj)} {s : Shared} {σ : L2.St} {H : Hp} {f : List Addr}
mutual
theorem RV.fn (I : Inv X pins σ H s) : ∀ (d d' : Dt) (v : V), plD d = true → plD d' = true → RV X.K T H f d v → RV X.K T H f d' v → d = d'
  | .non, d', v, _, h', r, r' => by cases r; cases r'; rfl
  | .bl b, d', v, _, h', r, r' => by cases r; cases r'; rfl
  | .int b, d', v, _, h', r, r' => by cases r; cases r'; rfl
  | .str b, d', v, _, h', r, r' => by cases r; cases r'; rfl
  | .rl b, d', v, h, h', r, r' => by cases h
  | .li b, d', v, h, h', r, r' => by cases h
  | .ob b _, d', v, h, h', r, r' => by cases h
  | .dv b, d', v, h, h', r, r' => by cases h
  | .ref b, d', v, h, h', r, r' => by cases h
  | .tup ds, d', v, h, h', r, r' => by
    cases r with
    | @tup _ vs a hs r =>
      cases r' with
      | @tup ds' vs' _ hs' r' =>
        simp only [plD] at h h'
        obtain ⟨i1, r1, ⟨o1, g1, e1, n1, s1⟩, _⟩ := I.tuple hs
        obtain ⟨i2, r2, ⟨o2, g2, e2, n2, s2⟩, _⟩ := I.tuple hs'
        rw [g1] at g2
        cases g2
        rw [s1] at s2
        injection s2 with s2 _
        have e : i1 = i2 := by simpa using s2
        subst e
        have ev := vals_fn r1 r2
        subst ev
        rw [RVs.fn I ds ds' vs h h' r r']
      | _ => cases h'
theorem RVs.fn (I : Inv X pins σ H s) : ∀ (d d' : List Dt) (v : List V), plL d = true → plL d' = true → RVs X.K T H f d v → RVs X.K T H f d' v → d = d'
  | [], _, _, _, _, r, r' => by cases r; cases r'; rfl
  | d :: ds, _, _, h, h', r, r' => by
    cases r with
    | cons q t =>
      cases r' with
      | cons q' t' =>
        simp only [plL, Bool.and_eq_true] at h h'
        rw [RV.fn I d _ _ h.1 h'.1 q q', RVs.fn I ds _ _ h.2 h'.2 t t']
end
theorem FR.fn (I : Inv X pins σ H s) : ∀ (d d' : List (Nat × Dt)) (v w : List (Str × V)), v = w → plF d = true → plF d' = true → FR X.K T H f d v → FR X.K T H f d' w → d = d'
  | [], _, _, _, e, _, _, r, r' => by
    cases r
    cases r' with
    | nil => rfl
    | cons _ _ => cases e
  | (i, d) :: ds, _, _, _, e, h, h', r, r' => by
    cases r with
    | cons q t =>
      cases r' with
      | nil => cases e
      | cons q' t' =>
        simp only [plF, Bool.and_eq_true] at h h'
        injection e with e1 e2
        injection e1 with e3 e4
        subst e4
        have a := RV.fn I d _ _ h.1 h'.1 q q'
        have b := FR.fn I ds _ _ _ e2 h.2 h'.2 t t'
        have c := T.inj _ _ e3
        rw [a, b, c]
end
open Classical in
section
variable {X : Cx} {T : Tb}
end
end LT
set_option Elab.async false
set_option linter.all false
set_option maxRecDepth 100000
namespace LT
open PySem PySem.Spec PyProof.Rows L2
structure FnG (P : Program) (w : World) (K : PySem.W.Frag) (mg : Str → Option Value) (base : Heap) (k : Nat) (f : Addr) (fd : FuncData) (ps : List Str) (sp : Sp) : Prop where
  many : ∀ {vs H Q E}, sp vs H Q E → vs.length = ps.length
  go : ∀ {A : Around} {outer : List Env} {s : Shared} {H : Hp} {args : Args} {us : List Value} {vs : List V} {Q : VK} {E : XK}, A.guards = some [] → Room k A → Env0 P w K mg base A outer s H → BindsTo s fd args (ps.zip us) → Vals vs us → sp vs H Q E →
    codeAny (model P w) A (.call (.ref f) args) (L2.CR (L2.CX P w) outer P w H s Q E) s
theorem FnG.imp {P : Program} {w : World} {K : PySem.W.Frag} {mg : Str → Option Value} {base : Heap} {k : Nat} {f : Addr} {fd : FuncData} {ps : List Str} {sp sp' : Sp} (G : FnG P w K mg base k f fd ps sp) (h : ∀ vs H Q E, sp' vs H Q E → sp vs H Q E) : FnG P w K mg base k f fd ps sp' :=
  ⟨fun q => G.many (h _ _ _ _ q), fun g r e b v q => G.go g r e b v (h _ _ _ _ q)⟩
section
variable {P : Program} {w : World} {K : PySem.W.Frag} {mg : Str → Option Value} {base : Heap} {B : Tz}
theorem fn_okG {x qual : Str} {st : Stmt} {f : Addr} {fd : FuncData} {N ps : List Str} {k : Nat} {m : MS} (F : Fun K x qual st f fd) (S : FnScope N ps (defScope st))
    (hb : ∀ (cdv : Value) (A : Around) (outer : List Env) (s : Shared) (H : Hp) (E : XK) (rs : List Addr), (A.deeper (envOfC qual (defScope st) s.heap.objs.size f cdv)).guards = some [] → Room k (A.deeper (envOfC qual (defScope st) s.heap.objs.size f cdv)) →
      ISs (cxOf (L2.CX P w) P w K mg base N qual (defScope st) f cdv A outer s H E) ⟨B, rs⟩ (fun cls d _ H => E cls d H) (defBody st) m) : FnG P w K mg base (k + 1) f fd ps (spF K B ps.length (runF N.length m)) := by
  obtain ⟨oc, od, kV, doc, pm, an, cdv, ct, osl, rfl, look, code⟩ := F.ex
  refine ⟨fun q => q.1, fun {A outer s H args us vs Q E} gd room e0 binds rel want => ?_⟩
  have many : vs.length = ps.length := want.1
  have inK : K.In s.heap := e0.mod.kin.keeps fun _ _ z => (e0.bs _ _ z).1
  have noL : s.heap.NoLimit := e0.mod.nolimit.keeps fun _ _ z => (e0.bs _ _ z).1
  refine codeAny_call_function room.depth (inK _ _ look) rfl S.co S.gen rfl (PySem.W.codeRec_of inK code) (binds _ _ _ _ (wpAny_newFunctionEnv_cells S.kind (fun nv hnv => ?kinds) fun en hen s1 grown => ?body))
  case kinds =>
    obtain ⟨n1, v1⟩ := nv
    rcases S.par n1 (List.of_mem_zip hnv).1 with z | z
    · exact Or.inl z
    · exact Or.inr ⟨z, PySem.W.cellsFrom_some _ _ _ (.inl z)⟩
  case body =>
    subst hen
    refine ⟨noL.keeps grown.toInCall.keep, codeAny_func ?_⟩
    obtain ⟨_, rs, f0, ds, st0, rvs, rh, p⟩ := want
    have J0 : Inv (cxOf (L2.CX P w) P w K mg base N qual (defScope st) f cdv A outer s H E) [] (L2.start N vs) H s1 := inv_start S room.hd e0 many rel grown
    have walk := hb cdv A outer s H E rs gd (room.deeper _)
    have ask : sG K ⟨B, rs⟩ (fun cls d _ H => E cls d H) m { nx := fun _ H' => Q .non H', rt := Q } (L2.start N vs) H := by
      refine ⟨f0, startE N.length ds, st0, REn.start rvs, rh, ?_⟩
      unfold runF at p
      cases hm : m (startE N.length ds) st0 with
      | nx e1 s2 => rw [hm] at p; exact fun f' H' σ' hp s rh' _ => p f' H' .non hp s rh' .non
      | rt d s2 => rw [hm] at p; exact p
      | ex e1 c fs s2 => rw [hm] at p; exact fun f' H' σ' cls d hp s rh' _ xr => p f' H' cls d hp s rh' xr
      | bk e1 s2 => rw [hm] at p; exact p.elim
      | ct e1 s2 => rw [hm] at p; exact p.elim
      | stuck => rw [hm] at p; exact p.elim
    refine wpAny_mono (walk.run [] s1 _ H _ J0 ask) (fun way s2 got => ?_) fun _ _ z => z
    have out : ∀ {sl : L2.St} {H2 : Hp} {a : V} {b : Value}, Inv (cxOf (L2.CX P w) P w K mg base N qual (defScope st) f cdv A outer s H E) [] sl H2 s2 → L2.RelV a b → Q a H2 → CE outer P w H s Q b s2 := fun J r q => ⟨_, _, J.os, J.bare, J.base, J.hok, r, q⟩
    cases way with
    | ret b => obtain ⟨a, sl, H2, J, r, q⟩ := got; exact out J r q
    | next => obtain ⟨sl, H2, J, q⟩ := got; exact out (a := V.non) (b := Value.none) J rfl q
    | brk => obtain ⟨_, _, _, q⟩ := got; exact q.elim
    | cont => obtain ⟨_, _, _, q⟩ := got; exact q.elim
end
theorem lawG_core {P : Program} {w : World} {K : PySem.W.Frag} {mg mb : Str → Option Value} {k : Nat} {fa sc : Addr} {fd : FuncData} {x : Str} {sh : Shared} {H : Hp} (ki : K.In sh.heap) (gl : sh.heap.Ns mainGlobals mg) (bu : sh.heap.Ns builtinsNs mb) (bb : ∀ y : Str, y ≠ "__name__" → mb y = bootBuiltins y) (nl : sh.heap.NoLimit) (gs : sh.gens = #[])
    (room : Room k callerA) (G : ∀ b0 : Heap, K.In b0 → b0.Ns mainGlobals mg → FnG P w K mg b0 k fa fd [x] (spLaw K)) (bd : ∀ (s : Shared) (u : Value), BindsTo s fd ⟨[u], []⟩ [(x, u)]) (only : Only H) (hok : HOk P w H sh.heap) (sole : ∀ c, H c ≠ none → c = sc) (nd : ∀ o es ep, sh.heap.get? sc = some o → o.data ≠ .dict es ep) (nk : H sc ≠ none → K.lookup sc = none)
    (want : spLaw K [.ref sc] H (fun v _ => v = .bl true) fun _ _ _ => False) :
    codeAny (model P w) callerA (.call (.ref fa) ⟨[.ref sc], []⟩) (fun r s2 => r = .ok (.ret (.bool true)) ∧ OldK sh.heap s2.heap ∧ s2.os = sh.os ∧ AllBare s2.gens) sh := by
  have free : ∀ c, c ≠ sc → H c = none := fun c hc => Classical.byContradiction fun z => hc (sole c z)
  have dfree : ∀ {c : Addr} {o : Obj} {es : Array DictEntry} {ep : Nat}, sh.heap.get? c = some o → o.data = .dict es ep → H c = none := fun {c o es ep} g d => free c fun z => nd o es ep (z ▸ g) d
  have nsB : ∀ {c : Addr} {m : Str → Option Value}, sh.heap.Ns c m → (hidT sh.heap H).Ns c m := by
    rintro c m ⟨o, es, ep, g, d, r⟩
    exact ⟨o, es, ep, hidT_get g (dfree g d), d, r⟩
  have kB : K.In (hidT sh.heap H) := by
    intro c o g
    refine hidT_get (ki c o g) ?_
    by_cases hc : c = sc
    · subst hc
      refine Classical.byContradiction fun z => ?_
      rw [nk z] at g
      cases g
    · exact free c hc
  obtain ⟨mc, nl1, nl2⟩ := nl
  have md : Mod K mg (hidT sh.heap H) := ⟨kB, nsB gl, ⟨mb, nsB bu, bb⟩, mc, nsB nl1, nl2⟩
  have start0 : Env0 P w K mg (hidT sh.heap H) callerA [] sh H := ⟨rfl, md, fun _ _ g => of_hidT g, Nat.le_of_eq (hidT_size _ _), trivial, (fun c hc => (List.not_mem_nil hc).elim), hok, .of_eq gs⟩
  refine codeAny_mono ((G _ kB (nsB gl)).go (us := [.ref sc]) (vs := [.ref sc]) rfl room start0 (bd sh (.ref sc)) (.cons rfl .nil) want) fun res s2 got => ?_
  cases res with
  | error e => exact (CX_no w P H sh e s2 got).elim
  | ok way =>
    cases way with
    | ret u =>
      obtain ⟨v, H2, same, bare, un, hok2, rel, rfl⟩ := got
      cases rel
      refine ⟨rfl, .of_keep fun c o g => ?_, same, bare⟩
      rcases only c with z | ⟨oc, xs, z⟩
      · exact un.keep c o g z (fun q => (List.not_mem_nil q).elim) (by simp)
      · have g1 := (hok c _ z).1
        rw [g] at g1
        cases g1
        exact (hok2 c _ (un.frzs c _ _ z)).1
    | _ => exact got.elim
theorem lawG_call {P : Program} {w : World} {K : PySem.W.Frag} {mg mb : Str → Option Value} {k : Nat} {fa sc : Addr} {fd : FuncData} {x : Str} {sh : Shared} {us : List Value} {ns : List Int} (ki : K.In sh.heap) (gl : sh.heap.Ns mainGlobals mg) (bu : sh.heap.Ns builtinsNs mb) (bb : ∀ y : Str, y ≠ "__name__" → mb y = bootBuiltins y) (nl : sh.heap.NoLimit) (gs : sh.gens = #[])
    (hsc : sh.heap.get? sc = some { cls := .type "list", data := .seq us.toArray }) (hi : IntsAre us ns) (hl : ns.length ≤ 63) (room : Room k callerA) (G : ∀ b0 : Heap, K.In b0 → b0.Ns mainGlobals mg → FnG P w K mg b0 k fa fd [x] (spLaw K)) (bd : ∀ (s : Shared) (u : Value), BindsTo s fd ⟨[u], []⟩ [(x, u)]) :
    codeAny (model P w) callerA (.call (.ref fa) ⟨[.ref sc], []⟩) (fun r s2 => r = .ok (.ret (.bool true)) ∧ OldK sh.heap s2.heap ∧ s2.os = sh.os ∧ AllBare s2.gens) sh := by
  have rel := vals_ints hi
  have hl2 : ns.length ≤ sizeLine := Nat.le_trans hl (by decide)
  have nd : ∀ (o : Obj) (es : Array DictEntry) (ep : Nat), sh.heap.get? sc = some o → o.data ≠ .dict es ep := fun o es ep g d => by
    rw [hsc] at g
    cases g
    exact Data.noConfusion d
  cases hk : K.lookup sc with
  | some o =>
    have g := ki sc o hk
    rw [hsc] at g
    cases g
    refine lawG_core (H := fun _ => none) ki gl bu bb nl gs room G bd (fun _ => .inl rfl) (fun c u z => nomatch z) (fun c z => (z rfl).elim) nd (fun z => (z rfl).elim) ⟨sc, ns, rfl, .inr ⟨_, us.toArray, _, hk, rfl, rfl, rfl, ?_, by simpa using rel⟩, hl, fun _ => .inl rfl, fun _ => rfl⟩
    rw [List.size_toArray, hi.length]
    exact hl2
  | none =>
    have look : ∀ c, upd (fun _ => none) sc (.frz { cls := .type "list", data := .seq us.toArray } (.lst (ns.map V.int))) c ≠ none → c = sc := fun c z => Classical.byContradiction fun q => z (upd_ne q)
    have on : Only (upd (fun _ => none) sc (.frz { cls := .type "list", data := .seq us.toArray } (.lst (ns.map V.int)))) := fun c => by
      by_cases hc : c = sc
      · subst hc; exact .inr ⟨_, _, upd_same⟩
      · exact .inl (upd_ne hc)
    refine lawG_core ki gl bu bb nl gs room G bd on (fun c u z => ?_) look nd (fun _ => hk) ⟨sc, ns, rfl, .inl (.inr ⟨_, upd_same⟩), hl, on, fun _ => rfl⟩
    have hc : c = sc := look c (by rw [z]; exact fun q => nomatch q)
    subst hc
    rw [upd_same] at z
    cases z
    exact ⟨hsc, by rw [List.length_map]; exact hl2, us, _, rel, hsc⟩
end LT
set_option Elab.async false
set_option linter.all false
set_option maxRecDepth 100000
namespace LT
open PySem PySem.Spec PyProof.Rows L2
theorem clL_map {α : Type} {n : Nat} {f : α → Dt} (xs : List α) (h : ∀ x ∈ xs, clD n (f x) = true) : clL n (xs.map f) = true := by
  rw [clL_mem]
  intro d hd
  obtain ⟨x, hx, rfl⟩ := List.mem_map.mp hd
  exact h x hx
theorem rei_cl {st : Sto} {n k : Nat} {d : Dt} (h : clD n d = true) : rei st n k d = some d := by
  cases k
  · unfold rei; rw [if_pos h]
  · unfold rei; rw [if_pos h]
theorem puR_ok {st st2 : Sto} {d : Dt} (h : clD 0 d = true) : puR st (.ok d st2) = .ok d st := by
  simp only [puR, rei_cl h]
theorem wTup_turn {xs : List Dt} {i : Nat} {st : Sto} : (wTup xs).turn i st = match xs[i]? with | some d => .item d | none => .stop := rfl
theorem wTup_fuel {xs : List Dt} : (wTup xs).fuel = xs.length + 1 := rfl
theorem wRng_fuel {lo : Int} {n : Nat} : (wRng lo n).fuel = n + 1 := rfl
theorem lcV_pure {g : MG} {tt : MT} {te : ME} {env : Lo} {st : Sto} (p : Dt → Bool) (h : Dt → Dt) (xs : List Dt) (hn : xs.length < lim)
    (hgo : ∀ x ∈ xs, ∃ env1, g x env st = .nx env1 st ∧ tt env1 st = .ok (p x) st ∧ (p x = true → te env1 st = .ok (h x) st)) :
    ∀ (m i : Nat) (acc : List Dt), m + i = xs.length → acc.length ≤ i → lcV (wTup xs) g tt te env (m + 1) i acc st = .ok (.li (acc ++ ((xs.drop i).filter p).map h)) st := by
  intro m
  induction m with
  | zero =>
    intro i acc hm ha
    have e : xs[i]? = none := List.getElem?_eq_none (by omega)
    unfold lcV
    rw [wTup_turn, e, List.drop_eq_nil_of_le (by omega)]
    simp
  | succ m ih =>
    intro i acc hm ha
    have hi : i < xs.length := by omega
    have e : xs[i]? = some xs[i] := List.getElem?_eq_getElem hi
    obtain ⟨env1, h1, h2, h3⟩ := hgo xs[i] (List.getElem_mem hi)
    unfold lcV
    rw [wTup_turn, e]
    simp only [h1, h2]
    rw [List.drop_eq_getElem_cons hi, List.filter_cons]
    cases hp : p xs[i] with
    | true =>
      simp only [if_true, h3 hp]
      rw [if_pos (by omega), ih (i + 1) (acc ++ [h xs[i]]) (by omega) (by simp; omega)]
      simp
    | false =>
      simp only [Bool.false_eq_true, if_false]
      rw [ih (i + 1) acc (by omega) (by omega)]
theorem lcV_map {g : MG} {te : ME} {env : Lo} {st : Sto} (h : Dt → Dt) (xs : List Dt) (hn : xs.length < lim)
    (hgo : ∀ x ∈ xs, ∃ env1, g x env st = .nx env1 st ∧ te env1 st = .ok (h x) st) : lcV (wTup xs) g mYes te env (xs.length + 1) 0 [] st = .ok (.li (xs.map h)) st := by
  rw [lcV_pure (fun _ => true) h xs hn (fun x hx => by
    obtain ⟨e, h1, h2⟩ := hgo x hx
    exact ⟨e, h1, rfl, fun _ => h2⟩) xs.length 0 [] (by omega) (by simp)]
  rw [List.drop_zero, List.filter_eq_self.mpr (fun _ _ => rfl)]
  rfl
theorem lcV_go {w : Wk} {g : MG} {te : ME} {env : Lo} (n : Nat) (hn : n < lim) (I : Sto → Prop) (P : Nat → Dt → Prop) (hstop : ∀ s, w.turn n s = .stop)
    (hgo : ∀ i s, i < n → I s → ∃ x, w.turn i s = .item x ∧ ∃ env1, g x env s = .nx env1 s ∧ ∃ d s1, te env1 s = .ok d s1 ∧ P i d ∧ I s1) :
    ∀ (m i : Nat) (acc : List Dt) (s : Sto), m + i = n → acc.length = i → I s → (∀ j d, acc[j]? = some d → P j d) →
      ∃ ys s', lcV w g mYes te env (m + 1) i acc s = .ok (.li ys) s' ∧ I s' ∧ ys.length = n ∧ ∀ j d, ys[j]? = some d → P j d := by
  intro m
  induction m with
  | zero =>
    intro i acc s hm ha hI hP
    have e : i = n := by omega
    unfold lcV
    rw [e, hstop]
    exact ⟨acc, s, rfl, hI, by omega, hP⟩
  | succ m ih =>
    intro i acc s hm ha hI hP
    obtain ⟨x, h1, env1, h2, d, s1, h3, h4, h5⟩ := hgo i s (by omega) hI
    unfold lcV
    rw [h1]
    simp only [h2, mYes, if_true, h3]
    rw [if_pos (by omega)]
    refine ih (i + 1) (acc ++ [d]) s1 (by omega) (by simp [ha]) h5 fun j e hj => ?_
    rcases Nat.lt_trichotomy j acc.length with hl | hl | hl
    · rw [List.getElem?_append_left hl] at hj; exact hP j e hj
    · rw [hl, List.getElem?_append_right (Nat.le_refl _)] at hj
      simp at hj
      subst hj
      rw [hl, ha]; exact h4
    · rw [List.getElem?_eq_none (by simp; omega)] at hj; cases hj
structure Src (M : List Nat) (I : Sto → Prop) : Prop where
  lt : ∀ s, I s → ∀ i ∈ M, i < s.length
  cl : ∀ s, I s → ∀ i ∈ M, ∀ o n, s[i]? = some o → (∀ j ∈ M, j < n) → clO n o = true
  fr : ∀ s s', (∀ i ∈ M, s'[i]? = s[i]?) → I s → I s'
structure Ds (M : List Nat) (I : Sto → Prop) (st st' : Sto) : Prop where
  xm : Xm M st st'
  len : st'.length = st.length
  inv : I st'
section
variable {M : List Nat} {I : Sto → Prop} {st st1 st2 : Sto}
theorem Ds.refl (h : I st) : Ds M I st st := ⟨Xm.refl, rfl, h⟩
theorem Ds.trans (a : Ds M I st st1) (b : Ds M I st1 st2) : Ds M I st st2 := ⟨a.xm.trans b.xm, b.len.trans a.len, b.inv⟩
theorem Ds.at (a : Ds M I st st1) {i : Nat} {o : Ob} (h : st[i]? = some o) (hm : i ∉ M) : st1[i]? = some o := a.xm.at h hm
theorem Src.app (S : Src M I) (h : I st) (g : Sto) : I (st ++ g) := S.fr st _ (fun i hi => List.getElem?_append_left (S.lt st h i hi)) h
theorem Src.set (S : Src M I) (h : I st) {i : Nat} {o : Ob} (hi : i ∉ M) : I (st.set i o) := S.fr st _ (fun j hj => List.getElem?_set_ne fun e => hi (by rw [e]; exact hj)) h
theorem trR_src (S : Src M I) (h : I st) (x : Xm M st st2) (h2 : I st2) {d : Dt} (hd : clD st.length d = true) : trR st (.ok d st2) = .ok d (st2.take st.length) ∧ Ds M I st (st2.take st.length) := by
  have hl : (st2.take st.length).length = st.length := by rw [List.length_take]; have := x.len; omega
  have ok : OldOk st st2 := ⟨x.len, fun i o hi ho => by
    by_cases hm : i ∈ M
    · exact .inr (S.cl st2 h2 i hm o _ ho (S.lt st h))
    · exact .inl (by rw [← x.get i hi hm]; exact ho)⟩
  refine ⟨?_, ⟨?_, ?_⟩, hl, S.fr st2 _ (fun i hi => List.getElem?_take_of_lt (S.lt st h i hi)) h2⟩
  · unfold trR
    simp only
    rw [if_pos ok, rei_cl hd]
  · rw [hl]; exact Nat.le_refl _
  · intro i hi hm
    rw [List.getElem?_take_of_lt hi]
    exact x.get i hi hm
end
end LT
set_option Elab.async false
set_option linter.all false
set_option maxRecDepth 100000
namespace LT
open PySem PySem.Spec PyProof.Rows L2
def Giv {α : Type} (r : Re α) (P : α → Sto → Prop) : Prop := match r with
  | .ok a s => P a s
  | _ => False
def Run (r : Rs) (N : Lo → Sto → Prop) (R : Dt → Sto → Prop) : Prop := match r with
  | .nx e s => N e s
  | .rt d s => R d s
  | _ => False
section
variable {α β : Type} {env : Lo} {st s1 : Sto} {N : Lo → Sto → Prop} {R : Dt → Sto → Prop} {P : Dt → Sto → Prop} {PL : List Dt → Sto → Prop} {PB : Bool → Sto → Prop}
theorem giv {r : Re α} {a : α} {s : Sto} {P : α → Sto → Prop} (h : r = .ok a s) (k : P a s) : Giv r P := by rw [h]; exact k
theorem Giv.eq {r : Re α} {P : α → Sto → Prop} (h : Giv r P) : ∃ a s, r = .ok a s ∧ P a s := by
  cases r with
  | ok a s => exact ⟨a, s, rfl, h⟩
  | exc c fs s => exact h.elim
  | stuck => exact h.elim
theorem Giv.mono {r : Re α} {P Q : α → Sto → Prop} (h : Giv r P) (k : ∀ a s, P a s → Q a s) : Giv r Q := by
  cases r with
  | ok a s => exact k a s h
  | exc c fs s => exact h.elim
  | stuck => exact h.elim
theorem giv_bind {r : Re α} {f : α → Sto → Re β} {P : β → Sto → Prop} (h : Giv r fun a s => Giv (f a s) P) : Giv (r.bind f) P := by
  cases r with
  | ok a s => exact h
  | exc c fs s => exact h.elim
  | stuck => exact h.elim
theorem Run.mono {r : Rs} {N' : Lo → Sto → Prop} {R' : Dt → Sto → Prop} (h : Run r N R) (hn : ∀ e s, N e s → N' e s) (hr : ∀ d s, R d s → R' d s) : Run r N' R' := by
  cases r <;> first | exact h.elim | exact hn _ _ h | exact hr _ _ h
theorem run_nx (h : N env st) : Run (sNx env st) N R := h
theorem run_seq {a b : MS} (h : Run (a env st) (fun e s => Run (b e s) N R) R) : Run (sSeq a b env st) N R := by
  unfold sSeq
  cases ha : a env st <;> rw [ha] at h <;> first | exact h.elim | exact h
theorem run_set {i : Nat} {e : ME} (h : Giv (e env st) fun d s => N (env.set i (some d)) s) : Run (sSet i e env st) N R := by
  unfold sSet sAsg gNm
  cases ha : e env st <;> rw [ha] at h <;> first | exact h.elim | exact h
theorem run_expr {e : ME} (h : Giv (e env st) fun _ s => N env s) : Run (sExpr e env st) N R := by
  unfold sExpr
  cases ha : e env st <;> rw [ha] at h <;> first | exact h.elim | exact h
theorem run_ret {e : ME} (h : Giv (e env st) R) : Run (sRet e env st) N R := by
  unfold sRet
  cases ha : e env st <;> rw [ha] at h <;> first | exact h.elim | exact h
theorem run_retN (h : R .non st) : Run (sRetN env st) N R := h
theorem run_if {t : MT} {a b : MS} (h : Giv (t env st) fun x s => if x = true then Run (a env s) N R else Run (b env s) N R) : Run (sIf t a b env st) N R := by
  unfold sIf
  cases ha : t env st with
  | ok x s =>
    rw [ha] at h
    cases x with
    | true => exact h
    | false => exact h
  | exc c fs s => rw [ha] at h; exact h.elim
  | stuck => rw [ha] at h; exact h.elim
theorem run_ifT {t : MT} {a b : MS} {s : Sto} (h : t env st = .ok true s) (k : Run (a env s) N R) : Run (sIf t a b env st) N R := run_if (giv h (by rw [if_pos rfl]; exact k))
theorem run_ifF {t : MT} {a b : MS} {s : Sto} (h : t env st = .ok false s) (k : Run (b env s) N R) : Run (sIf t a b env st) N R := run_if (giv h (by rw [if_neg Bool.false_ne_true]; exact k))
theorem run_par {i j : Nat} {a : MA} {x y : Dt} {s : Sto} (h : a env st = .ok [x, y] s) (k : N ((env.set i (some x)).set j (some y)) s) : Run (sPar i j a env st) N R := by
  unfold sPar
  rw [h]
  exact k
theorem run_asg {e : ME} {g : MG} (h : Giv (e env st) fun d s => Run (g d env s) N R) : Run (sAsg e g env st) N R := by
  unfold sAsg
  cases ha : e env st <;> rw [ha] at h <;> first | exact h.elim | exact h
theorem run_for {m : MW} {g : MG} {body : MS} (h : Giv (m env st) fun w s => Run (forL w g body w.fuel 0 env s) N R) : Run (sFor m g body env st) N R := by
  unfold sFor
  cases ha : m env st <;> rw [ha] at h <;> first | exact h.elim | exact h
theorem run_forL {w : Wk} {g : MG} {body : MS} (n : Nat) (J : Nat → Lo → Sto → Prop) (hstop : ∀ e s, J n e s → w.turn n s = .stop)
    (hgo : ∀ i e s, i < n → J i e s → ∃ d, w.turn i s = .item d ∧ ∃ e1 s1, g d e s = .nx e1 s1 ∧ Run (body e1 s1) (J (i + 1)) R) (fin : ∀ e s, J n e s → N e s) :
    ∀ (m i : Nat) (e : Lo) (s : Sto), i + m = n → J i e s → Run (forL w g body (m + 1) i e s) N R
  | 0, i, e, s, h, hJ => by
    have e' : i = n := by omega
    subst e'
    unfold forL
    rw [hstop e s hJ]
    exact fin e s hJ
  | m + 1, i, e, s, h, hJ => by
    obtain ⟨d, ht, e1, s1, hg, hb⟩ := hgo i e s (by omega) hJ
    unfold forL
    rw [ht]
    simp only
    rw [hg]
    simp only
    cases hq : body e1 s1 with
    | nx e2 s2 => rw [hq] at hb; exact run_forL n J hstop hgo fin m (i + 1) e2 s2 (by omega) hb
    | rt d2 s2 => rw [hq] at hb; exact hb
    | bk e2 s2 => rw [hq] at hb; exact hb.elim
    | ct e2 s2 => rw [hq] at hb; exact hb.elim
    | ex e2 c fs s2 => rw [hq] at hb; exact hb.elim
    | stuck => rw [hq] at hb; exact hb.elim
theorem run_forT {g : MG} {body : MS} (xs : List Dt) (J : Nat → Lo → Sto → Prop) (h0 : J 0 env st)
    (hgo : ∀ i e s (hi : i < xs.length), J i e s → ∃ e1 s1, g xs[i] e s = .nx e1 s1 ∧ Run (body e1 s1) (J (i + 1)) R) (fin : ∀ e s, J xs.length e s → N e s) : Run (forL (wTup xs) g body (xs.length + 1) 0 env st) N R :=
  run_forL xs.length J (fun _ _ _ => wTup_stop) (fun i e s hi hJ => ⟨xs[i], wTup_item (List.getElem?_eq_getElem hi), hgo i e s hi hJ⟩) fin xs.length 0 env st (by omega) h0
theorem run_forR {g : MG} {body : MS} {lo : Int} (n : Nat) (J : Nat → Lo → Sto → Prop) (h0 : J 0 env st)
    (hgo : ∀ i e s, i < n → J i e s → ∃ e1 s1, g (.int (lo + i)) e s = .nx e1 s1 ∧ Run (body e1 s1) (J (i + 1)) R) (fin : ∀ e s, J n e s → N e s) : Run (forL (wRng lo n) g body (n + 1) 0 env st) N R :=
  run_forL n J (fun _ _ _ => wRng_stop) (fun i e s hi hJ => ⟨_, wRng_item hi, hgo i e s hi hJ⟩) fin n 0 env st (by omega) h0
theorem run_while {t : MT} {body : MS} {fuel : Nat} (h : Run (whileL t body fuel env st) N R) : Run (sWhile fuel t body env st) N R := h
theorem run_whileL {t : MT} {body : MS} (J : Nat → Lo → Sto → Prop) (hgo : ∀ m e s, J m e s → Giv (t e s) fun b s1 => if b = true then ∃ m', m' < m ∧ Run (body e s1) (J m') R else N e s1) :
    ∀ (fuel m : Nat) (e : Lo) (s : Sto), m < fuel → J m e s → Run (whileL t body fuel e s) N R
  | 0, m, e, s, h, _ => by omega
  | fuel + 1, m, e, s, h, hJ => by
    have q := hgo m e s hJ
    unfold whileL
    cases ht : t e s with
    | stuck => rw [ht] at q; exact q.elim
    | exc c fs s1 => rw [ht] at q; exact q.elim
    | ok b s1 =>
      rw [ht] at q
      cases b with
      | false => exact q
      | true =>
        have q' : ∃ m', m' < m ∧ Run (body e s1) (J m') R := q
        obtain ⟨m', hm, hb⟩ := q'
        simp only [Re.on, if_true]
        cases hq : body e s1 with
        | nx e2 s2 => rw [hq] at hb; exact run_whileL J hgo fuel m' e2 s2 (by omega) hb
        | rt d2 s2 => rw [hq] at hb; exact hb
        | bk e2 s2 => rw [hq] at hb; exact hb.elim
        | ct e2 s2 => rw [hq] at hb; exact hb.elim
        | ex e2 c fs s2 => rw [hq] at hb; exact hb.elim
        | stuck => rw [hq] at hb; exact hb.elim
theorem giv_out {r : Rs} (h : Run r (fun _ s => P .non s) P) : Giv (outF r) P := by
  cases r <;> first | exact h.elim | exact h
theorem giv_call {n : Nat} {F : MF} {a : MA} {dv : List Dt} (h : Giv (a env st) fun ds s => ds.length + dv.length = n ∧ Giv (F (ds ++ dv) s) P) : Giv (mCall n F a dv env st) P := by
  refine giv_bind (h.mono fun ds s q => ?_)
  rw [if_pos q.1]
  exact q.2
theorem giv_callD {n : Nat} {F : MF} {a : MA} {dv ds : List Dt} {s : Sto} (h : a env st = .ok ds s) (hl : ds.length + dv.length = n) (k : Giv (F (ds ++ dv) s) P) : Giv (mCall n F a dv env st) P := giv_call (giv h ⟨hl, k⟩)
theorem giv_cons {a : ME} {r : MA} (h : Giv (a env st) fun x s => Giv (r env s) fun xs s2 => PL (x :: xs) s2) : Giv (mCons a r env st) PL := giv_bind (h.mono fun x s q => giv_bind (q.mono fun xs s2 z => z))
theorem giv_nil (h : PL [] st) : Giv (mNil env st) PL := h
theorem giv_cb {g : List Dt → Sto → Re Dt} {a : MA} (h : Giv (a env st) fun xs s => Giv (g xs s) P) : Giv (mCB g a env st) P := giv_bind h
theorem giv_bin {g : Dt → Dt → Sto → Re Dt} {a b : ME} (h : Giv (a env st) fun x s => Giv (b env s) fun y s2 => Giv (g x y s2) P) : Giv (mBin g a b env st) P := giv_bind (h.mono fun x s q => giv_bind q)
theorem giv_b {a : ME} (h : Giv (a env st) fun d s => ∃ b, d = .bl b ∧ PB b s) : Giv (mB a env st) PB := giv_bind (h.mono fun d s q => by
  obtain ⟨b, rfl, q⟩ := q
  exact q)
theorem giv_ifE {t : MT} {a b : ME} (h : Giv (t env st) fun x s => if x = true then Giv (a env s) P else Giv (b env s) P) : Giv (mIf t a b env st) P := giv_bind (h.mono fun x s q => by
  cases x with
  | true => exact q
  | false => exact q)
theorem giv_tup {a : MA} (h : Giv (a env st) fun xs s => xs.length ≤ lim ∧ P (.tup xs) s) : Giv (mTup a env st) P := giv_bind (h.mono fun xs s q => by
  rw [if_pos q.1]; exact q.2)
theorem giv_lstV {a : MA} (h : Giv (a env st) fun xs s => xs.length ≤ lim ∧ P (.li xs) s) : Giv (mLstV a env st) P := giv_bind (h.mono fun xs s q => by
  rw [if_pos q.1]; exact q.2)
theorem giv_or {a b : MT} (h : Giv (a env st) fun x s => if x = true then PB true s else Giv (b env s) PB) : Giv (mOr a b env st) PB := giv_bind (h.mono fun x s q => by
  cases x with
  | true => exact q
  | false => exact q)
theorem giv_and {a b : MT} (h : Giv (a env st) fun x s => if x = true then Giv (b env s) PB else PB false s) : Giv (mAnd a b env st) PB := giv_bind (h.mono fun x s q => by
  cases x with
  | true => exact q
  | false => exact q)
theorem giv_not {a : MT} (h : Giv (a env st) fun x s => PB (!x) s) : Giv (mNot a env st) PB := giv_bind (h.mono fun x s q => q)
theorem giv_rng {a : MA} {PW : Wk → Sto → Prop} (h : Giv (a env st) fun xs s => ∃ n : Int, xs = [.int n] ∧ -1000000 ≤ n ∧ n ≤ 1000000 ∧ PW (wRng 0 n.toNat) s) : Giv (mRng a env st) PW := giv_bind (h.mono fun xs s q => by
  obtain ⟨n, rfl, h1, h2, q⟩ := q
  unfold rngD
  simp only
  rw [if_pos ⟨h1, h2⟩]
  exact q)
theorem giv_it {a : ME} {PW : Wk → Sto → Prop} (h : Giv (a env st) fun d s => Giv (itD d s) PW) : Giv (mIt a env st) PW := giv_bind h
theorem giv_lcV {m : MW} {g : MG} {tt : MT} {te : ME} {vs : List Nat} (h : Giv (m env st) fun w s => Giv (lcV w g tt te (wipeE env vs) w.fuel 0 [] s) P) : Giv (mLcV m g tt te vs env st) P := giv_bind h
theorem giv_sl {g : Dt → Option Int → Option Int → Sto → Re Dt} {a : ME} {lo hi : MO} (h : Giv (a env st) fun x s => Giv (lo env s) fun l s2 => Giv (hi env s2) fun u s3 => Giv (g x l u s3) P) : Giv (mSl g a lo hi env st) P := giv_bind (h.mono fun x s q => giv_bind (q.mono fun l s2 z => giv_bind z))
theorem giv_part {a : ME} {PO : Option Int → Sto → Prop} (h : Giv (a env st) fun d s => ∃ i, d = .int i ∧ PO (some i) s) : Giv (mPart a env st) PO := giv_bind (h.mono fun d s q => by
  obtain ⟨i, rfl, q⟩ := q
  exact q)
theorem giv_noPart {PO : Option Int → Sto → Prop} (h : PO none st) : Giv (mNoPart env st) PO := h
theorem giv_var {i : Nat} {d : Dt} (h : env[i]? = some (some d)) (k : P d st) : Giv (mVar i env st) P := by
  unfold mVar
  rw [h]
  exact k
def VarG (i : Nat) (env : Lo) (st : Sto) (P : Dt → Sto → Prop) : Prop := Giv (mVar i env st) P
theorem giv_varG {i : Nat} (h : VarG i env st P) : Giv (mVar i env st) P := h
theorem varG_i {i : Nat} {d : Dt} (h : env[i]? = some (some d)) (k : P d st) : VarG i env st P := giv_var h k
theorem giv_c {d : Dt} (k : P d st) : Giv (mC d env st) P := k
theorem giv_addI {i j : Int} (k : P (.int (i + j)) st) : Giv (addD (.int i) (.int j) st) P := k
theorem giv_subI {i j : Int} (k : P (.int (i - j)) st) : Giv (subD (.int i) (.int j) st) P := k
theorem giv_eqI {i j : Int} (k : P (.bl (decide (i = j))) st) : Giv (eqD (.int i) (.int j) st) P := k
theorem giv_neI {i j : Int} (k : P (.bl (!decide (i = j))) st) : Giv (neD (.int i) (.int j) st) P := k
theorem giv_eqS {i j : List Nat} (k : P (.bl (decide (i = j))) st) : Giv (eqD (.str i) (.str j) st) P := k
theorem giv_neS {i j : List Nat} (k : P (.bl (!decide (i = j))) st) : Giv (neD (.str i) (.str j) st) P := k
theorem giv_addS {a b : List Nat} (hl : a.length + b.length ≤ lim) (k : P (.str (a ++ b)) st) : Giv (addD (.str a) (.str b) st) P := by
  unfold addD
  simp only
  rw [if_pos hl]
  exact k
theorem giv_addL {a b : List Dt} (hl : a.length + b.length ≤ lim) (k : P (.li (a ++ b)) st) : Giv (addD (.li a) (.li b) st) P := by
  unfold addD
  simp only [lsD]
  rw [if_pos hl]
  exact k
theorem giv_addT {a b : List Dt} (hl : a.length + b.length ≤ lim) (k : P (.tup (a ++ b)) st) : Giv (addD (.tup a) (.tup b) st) P := by
  unfold addD
  simp only
  rw [if_pos hl]
  exact k
theorem giv_lenL {xs : List Dt} (k : P (.int xs.length) st) : Giv (lenD [.li xs] st) P := k
theorem giv_lenT {xs : List Dt} (k : P (.int xs.length) st) : Giv (lenD [.tup xs] st) P := k
theorem giv_slL {xs : List Dt} {lo hi : Option Int} (k : P (.li (cutL xs lo hi)) st) : Giv (slD (.li xs) lo hi st) P := k
theorem giv_slT {xs : List Dt} {lo hi : Option Int} (k : P (.tup (cutL xs lo hi)) st) : Giv (slD (.tup xs) lo hi st) P := k
theorem giv_tuL {xs : List Dt} (k : P (.tup xs) st) : Giv (tupleD [.li xs] st) P := k
theorem giv_tuT {xs : List Dt} (k : P (.tup xs) st) : Giv (tupleD [.tup xs] st) P := k
theorem giv_liL {xs : List Dt} (k : P (.li xs) st) : Giv (listV [.li xs] st) P := k
theorem giv_liT {xs : List Dt} (k : P (.li xs) st) : Giv (listV [.tup xs] st) P := k
theorem giv_itT {xs : List Dt} {PW : Wk → Sto → Prop} (k : PW (wTup xs) st) : Giv (itD (.tup xs) st) PW := k
theorem giv_itL {xs : List Dt} {PW : Wk → Sto → Prop} (k : PW (wTup xs) st) : Giv (itD (.li xs) st) PW := k
theorem giv_andE {a b : ME} (h : Giv (a env st) fun x s => ∃ c, x = .bl c ∧ if c = true then Giv (b env s) P else P (.bl false) s) : Giv (mAndV a b env st) P := giv_bind (h.mono fun x s q => by
  obtain ⟨c, rfl, q⟩ := q
  cases c with
  | true => exact q
  | false => exact q)
theorem giv_orE {a b : ME} (h : Giv (a env st) fun x s => ∃ c, x = .bl c ∧ if c = true then P (.bl true) s else Giv (b env s) P) : Giv (mOrV a b env st) P := giv_bind (h.mono fun x s q => by
  obtain ⟨c, rfl, q⟩ := q
  cases c with
  | true => exact q
  | false => exact q)
theorem giv_notE {a : ME} (h : Giv (a env st) fun x s => ∃ c, x = .bl c ∧ P (.bl (!c)) s) : Giv (mNotV a env st) P := giv_bind (h.mono fun x s q => by
  obtain ⟨c, rfl, q⟩ := q
  exact q)
theorem giv_makeV {c n : Nat} {F : MF} {a : MA} {dv : List Dt} (h : Giv (a env st) fun ds s => ds.length + dv.length + 1 = n ∧ Giv (pt (newF c F) (ds ++ dv) s) P) : Giv (mMakeV c n F a dv env st) P := giv_bind (h.mono fun ds s q => by
  rw [if_pos q.1]; exact q.2)
def FldG (cs : List Nat) (k : Nat) (x : Dt) (P : Dt → Prop) : Prop := ∃ c fs d, x = .ob c fs ∧ cs.contains c = true ∧ fs.lookup k = some d ∧ P d
theorem fldG_id {cs : List Nat} {k : Nat} {x : Dt} {P : Dt → Prop} (h : FldG cs k x P) : FldG cs k x P := h
theorem fldG_i {cs : List Nat} {k c : Nat} {fs : List (Nat × Dt)} {x d : Dt} {P : Dt → Prop} (h1 : x = .ob c fs) (h2 : cs.contains c = true) (h3 : fs.lookup k = some d) (h : P d) : FldG cs k x P := ⟨c, fs, d, h1, h2, h3, h⟩
theorem giv_fldO {cs : List Nat} {k : Nat} {a : ME} (h : Giv (a env st) fun x s => FldG cs k x fun d => P d s) : Giv (mFld cs k a env st) P := giv_bind (h.mono fun x s q => by
  obtain ⟨c, fs, d, rfl, h1, h2, q⟩ := q
  simp only [objD, h1, if_true, h2]
  exact q)
def IsG (x : Dt) (s : Sto) (q : Tk → Option Bool) (P : Bool → Prop) : Prop := ∃ t b, tkD x s = some t ∧ q t = some b ∧ P b
theorem isG_id {x : Dt} {s : Sto} {q : Tk → Option Bool} {P : Bool → Prop} (h : IsG x s q P) : IsG x s q P := h
theorem isG_t {x : Dt} {s : Sto} {q : Tk → Option Bool} {P : Bool → Prop} {t : Tk} (h1 : tkD x s = some t) (h2 : q t = some true) (h : P true) : IsG x s q P := ⟨t, true, h1, h2, h⟩
theorem isG_f {x : Dt} {s : Sto} {q : Tk → Option Bool} {P : Bool → Prop} {t : Tk} (h1 : tkD x s = some t) (h2 : q t = some false) (h : P false) : IsG x s q P := ⟨t, false, h1, h2, h⟩
theorem giv_isI {q : Tk → Option Bool} {a : ME} (h : Giv (a env st) fun x s => IsG x s q fun b => P (.bl b) s) : Giv (mIsI q a env st) P := giv_bind (h.mono fun x s z => by
  obtain ⟨t, b, h1, h2, z⟩ := z
  simp only [h1, h2]
  exact z)
def StarG (x : Dt) (s : Sto) (P : List Dt → Prop) : Prop := ∃ ys, seqD x s = some ys ∧ P ys
theorem starG_id {x : Dt} {s : Sto} {P : List Dt → Prop} (h : StarG x s P) : StarG x s P := h
theorem starG_i {x : Dt} {s : Sto} {P : List Dt → Prop} {ys : List Dt} (h1 : seqD x s = some ys) (h : P ys) : StarG x s P := ⟨ys, h1, h⟩
theorem giv_star {a : ME} {r : MA} (h : Giv (a env st) fun x s => StarG x s fun ys => Giv (r env s) fun xs s2 => PL (ys ++ xs) s2) : Giv (mStar a r env st) PL := giv_bind (h.mono fun x s q => by
  obtain ⟨ys, h1, q⟩ := q
  simp only [h1]
  exact giv_bind (q.mono fun xs s2 z => z))
theorem giv_slS {xs : List Nat} {lo hi : Option Int} (hl : xs.length ≤ lim) (k : P (.str (cutL xs lo hi)) st) : Giv (slD (.str xs) lo hi st) P := by
  simp only [slD]
  rw [if_pos hl]
  exact k
theorem giv_lenS {xs : List Nat} (hl : xs.length ≤ lim) (k : P (.int xs.length) st) : Giv (lenD [.str xs] st) P := by
  simp only [lenD]
  rw [if_pos hl]
  exact k
theorem giv_inT {s : List Nat} {ys : List (List Nat)} (k : P (.bl (decide (s ∈ ys))) st) : Giv (inD (.str s) (.tup (ys.map Dt.str)) st) P := by
  unfold inD
  rw [in_strs (ys := ys) rfl]
  exact k
theorem giv_inL {s : List Nat} {ys : List (List Nat)} (k : P (.bl (decide (s ∈ ys))) st) : Giv (inD (.str s) (.li (ys.map Dt.str)) st) P := by
  unfold inD
  rw [in_strs (ys := ys) rfl]
  exact k
theorem giv_joinT {a : List Nat} {ss : List (List Nat)} (hl : (ss.map List.length).sum + ss.length * a.length ≤ 16777216) (k : P (.str (TL.joinL a ss)) st) : Giv (joinD (.str a) [.tup (ss.map Dt.str)] st) P := by
  simp only [joinD, seqD, strsD_map]
  rw [if_pos hl]
  exact k
theorem giv_joinL {a : List Nat} {ss : List (List Nat)} (hl : (ss.map List.length).sum + ss.length * a.length ≤ 16777216) (k : P (.str (TL.joinL a ss)) st) : Giv (joinD (.str a) [.li (ss.map Dt.str)] st) P := by
  simp only [joinD, seqD, strsD_map]
  rw [if_pos hl]
  exact k
theorem giv_fmt {a : ME} (h : Giv (a env st) fun x s => ∃ z, x = .str z ∧ z.length ≤ lim ∧ P (.str z) s) : Giv (mFmt a env st) P := giv_bind (h.mono fun x s q => by
  obtain ⟨z, rfl, hl, q⟩ := q
  simp only
  rw [if_pos hl]
  exact q)
theorem giv_joined {as : List ME} (h : Giv (mFs as [] env st) fun z s => P (.str z) s) : Giv (mJoined as env st) P := giv_bind h
theorem giv_fsN {acc : List Nat} {PF : List Nat → Sto → Prop} (h : PF acc st) : Giv (mFs [] acc env st) PF := h
theorem giv_fsC {a : ME} {as : List ME} {acc : List Nat} {PF : List Nat → Sto → Prop} (h : Giv (a env st) fun x s => ∃ z, x = .str z ∧ acc.length + z.length ≤ lim ∧ Giv (mFs as (acc ++ z) env s) PF) : Giv (mFs (a :: as) acc env st) PF := by
  unfold mFs
  refine giv_bind (h.mono fun x s q => ?_)
  obtain ⟨z, rfl, hl, q⟩ := q
  simp only
  rw [if_pos hl]
  exact q
theorem ixD_nat {xs : List Dt} {i : Nat} {d : Dt} (h : xs[i]? = some d) : ixD (.tup xs) (.int (i : Int)) st = .ok d st := by
  simp only [ixD, seqD, atI_natC h]
theorem ixD_natL {xs : List Dt} {i : Nat} {d : Dt} (h : xs[i]? = some d) : ixD (.li xs) (.int (i : Int)) st = .ok d st := by
  simp only [ixD, seqD, atI_natC h]
theorem giv_ixT {xs : List Dt} {i : Nat} {d : Dt} (h : xs[i]? = some d) (k : P d st) : Giv (ixD (.tup xs) (.int (i : Int)) st) P := giv (ixD_nat h) k
theorem giv_ixL {xs : List Dt} {i : Nat} {d : Dt} (h : xs[i]? = some d) (k : P d st) : Giv (ixD (.li xs) (.int (i : Int)) st) P := giv (ixD_natL h) k
theorem giv_ix0 {x : Dt} {xs : List Dt} (k : P x st) : Giv (ixD (.tup (x :: xs)) (.int 0) st) P := giv_ixT (i := 0) rfl k
theorem giv_ix1 {x y : Dt} {xs : List Dt} (k : P y st) : Giv (ixD (.tup (x :: y :: xs)) (.int 1) st) P := giv_ixT (i := 1) rfl k
theorem giv_ix2 {x y z : Dt} {xs : List Dt} (k : P z st) : Giv (ixD (.tup (x :: y :: z :: xs)) (.int 2) st) P := giv_ixT (i := 2) rfl k
theorem giv_ix0L {x : Dt} {xs : List Dt} (k : P x st) : Giv (ixD (.li (x :: xs)) (.int 0) st) P := giv_ixL (i := 0) rfl k
theorem giv_ix1L {x y : Dt} {xs : List Dt} (k : P y st) : Giv (ixD (.li (x :: y :: xs)) (.int 1) st) P := giv_ixL (i := 1) rfl k
theorem giv_ix2L {x y z : Dt} {xs : List Dt} (k : P z st) : Giv (ixD (.li (x :: y :: z :: xs)) (.int 2) st) P := giv_ixL (i := 2) rfl k
def MethG (c mk : Nat) (x : Dt) (s : Sto) (P : Prop) : Prop := ∃ fs, objD x s = some (c, fs) ∧ fs.lookup mk = none ∧ P
theorem methG_id {c mk : Nat} {x : Dt} {s : Sto} {P : Prop} (h : MethG c mk x s P) : MethG c mk x s P := h
theorem methG_i {c mk : Nat} {x : Dt} {s : Sto} {P : Prop} {fs : List (Nat × Dt)} (h1 : objD x s = some (c, fs)) (h2 : fs.lookup mk = none) (h : P) : MethG c mk x s P := ⟨fs, h1, h2, h⟩
theorem giv_meth {c mk n : Nat} {F : MF} {o : ME} {a : MA} {dv : List Dt} (h : Giv (o env st) fun x s => MethG c mk x s (Giv (a env s) fun ds s2 => ds.length + dv.length + 1 = n ∧ Giv (F (x :: (ds ++ dv)) s2) P)) : Giv (mMeth c mk n F o a dv env st) P := giv_bind (h.mono fun x s q => by
  obtain ⟨fs, h1, h2, q⟩ := q
  simp only [h1, h2, and_self, if_true]
  refine giv_bind (q.mono fun ds s2 z => ?_)
  rw [if_pos z.1]
  exact z.2)
theorem giv_chain {g h : Dt → Dt → Sto → Re Dt} {a b c : ME} (q : Giv (a env st) fun x s1 => Giv (b env s1) fun y s2 => Giv (g x y s2) fun z s3 => ∃ c0, z = .bl c0 ∧ if c0 = true then Giv (c env s3) fun w s4 => Giv (h y w s4) P else P (.bl false) s3) : Giv (mChain g h a b c env st) P := by
  refine giv_bind (q.mono fun x s1 q => giv_bind (q.mono fun y s2 q => giv_bind (q.mono fun z s3 q => ?_)))
  obtain ⟨c0, rfl, q⟩ := q
  cases c0 with
  | true => exact giv_bind q
  | false => exact q
theorem giv_leI {i j : Int} (k : P (.bl (decide (i ≤ j))) st) : Giv (leD (.int i) (.int j) st) P := k
theorem giv_ltI {i j : Int} (k : P (.bl (decide (i < j))) st) : Giv (ltD (.int i) (.int j) st) P := k
theorem giv_geI {i j : Int} (k : P (.bl (decide (j ≤ i))) st) : Giv (geD (.int i) (.int j) st) P := k
theorem giv_gtI {i j : Int} (k : P (.bl (decide (j < i))) st) : Giv (gtD (.int i) (.int j) st) P := k
theorem giv_strO {c : Nat} {F : MF} {x : Dt} {z : List Nat} {s : Sto} (hc : clsD x st = some c) (h : F [x] st = .ok (.str z) s) (k : P (.str z) s) : Giv (strOwnD c F [x] st) P := by
  simp only [strOwnD, hc, if_true, h, onlyD, isSt]
  exact k
theorem run_aug {i : Nat} {g : Dt → Dt → Sto → Re Dt} {a : ME} {d : Dt} (hd : env[i]? = some (some d)) (h : Giv (a env st) fun y s => Giv (g d y s) fun z s2 => N (env.set i (some z)) s2) : Run (sAug i g a env st) N R := by
  unfold sAug
  rw [hd]
  simp only
  obtain ⟨y, s, e, h⟩ := h.eq
  obtain ⟨z, s2, e2, h⟩ := h.eq
  rw [e]
  simp only [Re.on, e2]
  exact h
theorem giv_bm {chk : Dt → Sto → Bool} {g : Dt → List Dt → Sto → Re Dt} {o : ME} {a : MA} (h : Giv (o env st) fun x s => chk x s = true ∧ Giv (a env s) fun ds s2 => Giv (g x ds s2) P) : Giv (mBM chk g o a env st) P := giv_bind (h.mono fun x s q => by
  rw [if_pos q.1]; exact giv_bind q.2)
theorem giv_bm0 {chk : Dt → Sto → Bool} {g : Dt → List Dt → Sto → Re Dt} {o : ME} (h : Giv (o env st) fun x s => chk x s = true ∧ Giv (g x [] s) P) : Giv (mBM0 chk g o env st) P := giv_bind (h.mono fun x s q => by
  rw [if_pos q.1]; exact q.2)
theorem giv_lcGo {w : Wk} {g : MG} {te : ME} {env : Lo} {s : Sto} (n : Nat) (hf : w.fuel = n + 1) (hn : n < lim) (I : Sto → Prop) (Q : Dt → Prop) (hstop : ∀ s, w.turn n s = .stop) (h0 : I s)
    (hgo : ∀ i s, i < n → I s → ∃ x, w.turn i s = .item x ∧ ∃ env1, g x env s = .nx env1 s ∧ Giv (te env1 s) fun d s1 => Q d ∧ I s1)
    (k : ∀ ys s', I s' → ys.length = n → (∀ d ∈ ys, Q d) → P (.li ys) s') : Giv (lcV w g mYes te env w.fuel 0 [] s) P := by
  rw [hf]
  obtain ⟨ys, s', e, h1, h2, h3⟩ := lcV_go (w := w) (g := g) (te := te) (env := env) n hn I (fun _ d => Q d) hstop (fun i s hi hI => by
    obtain ⟨x, h1, env1, h2, h3⟩ := hgo i s hi hI
    obtain ⟨d, s1, h4, h5, h6⟩ := h3.eq
    exact ⟨x, h1, env1, h2, d, s1, h4, h5, h6⟩) n 0 [] s (by omega) rfl h0 (fun j d hj => by simp at hj)
  refine giv e (k ys s' h1 h2 fun d hd => ?_)
  obtain ⟨j, hj⟩ := List.mem_iff_getElem?.mp hd
  exact h3 j d hj
theorem giv_lcMap {g : MG} {te : ME} {env : Lo} {s : Sto} (xs : List Dt) (h : Dt → Dt) (hn : xs.length < lim) (hgo : ∀ x ∈ xs, ∃ env1, g x env s = .nx env1 s ∧ te env1 s = .ok (h x) s) (k : P (.li (xs.map h)) s) :
    Giv (lcV (wTup xs) g mYes te env (wTup xs).fuel 0 [] s) P := giv (lcV_map h xs hn hgo) k
theorem giv_lcMapT {α : Type} {g : MG} {te : ME} {env : Lo} {s : Sto} (xs : List α) (f h : α → Dt) (hn : xs.length < lim) (hgo : ∀ a ∈ xs, ∃ env1, g (f a) env s = .nx env1 s ∧ te env1 s = .ok (h a) s) (k : P (.li (xs.map h)) s) :
    Giv (lcV (wTup (xs.map f)) g mYes te env (wTup (xs.map f)).fuel 0 [] s) P := by
  obtain ⟨ys, s', e, h1, h2, h3⟩ := lcV_go (w := wTup (xs.map f)) (g := g) (te := te) (env := env) xs.length hn (fun s' => s' = s) (fun i d => ∃ a, xs[i]? = some a ∧ d = h a) (fun s' => by
      have := wTup_stop (ds := xs.map f) (st := s')
      rwa [List.length_map] at this) (fun i s' hi hs => by
      subst hs
      have ha : xs[i]? = some xs[i] := List.getElem?_eq_getElem hi
      obtain ⟨env1, q1, q2⟩ := hgo xs[i] (List.getElem_mem hi)
      exact ⟨f xs[i], wTup_item (by rw [List.getElem?_map, ha]; rfl), env1, q1, _, s', q2, ⟨_, ha, rfl⟩, rfl⟩) xs.length 0 [] s (by omega) rfl rfl (fun j d hj => by simp at hj)
  subst h1
  have ey : ys = xs.map h := by
    apply List.ext_getElem?
    intro j
    by_cases hj : j < xs.length
    · have hj2 : j < ys.length := by omega
      obtain ⟨a, ha, hd⟩ := h3 j ys[j] (List.getElem?_eq_getElem hj2)
      rw [List.getElem?_eq_getElem hj2, List.getElem?_map, ha, hd]
      rfl
    · rw [List.getElem?_eq_none (by omega), List.getElem?_eq_none (by rw [List.length_map]; omega)]
  have ef : (wTup (xs.map f)).fuel = xs.length + 1 := by rw [wTup_fuel, List.length_map]
  rw [ef]
  refine giv e ?_
  rw [ey]
  exact k
theorem ifT {p q : Prop} (h : p) : if (true : Bool) = true then p else q := by rw [if_pos rfl]; exact h
theorem ifF {p q : Prop} (h : q) : if (false : Bool) = true then p else q := by rw [if_neg Bool.false_ne_true]; exact h
theorem ifNT {p q : Prop} (h : q) : if (!(true : Bool)) = true then p else q := ifF h
theorem ifNF {p q : Prop} (h : p) : if (!(false : Bool)) = true then p else q := ifT h
theorem giv_all {ys : List Dt} {bs : List Bool} (h : boolsD ys = some bs) (k : P (.bl (bs.all id)) st) : Giv (allD [.li ys] st) P := by
  simp only [allD, lstD, h]
  exact k
theorem run_fldSet {cs : List Nat} {k : Nat} {o v : ME} (h : Giv (v env st) fun d s => Giv (o env s) fun x s2 => ∃ i c fs, x = .ref i ∧ s2[i]? = some (.ins c fs) ∧ cs.contains c = true ∧ fs.length < 900 ∧ N env (s2.set i (.ins c (putN k d fs)))) : Run (sFldSet cs k o v env st) N R := by
  obtain ⟨d, s, e1, h⟩ := h.eq
  obtain ⟨x, s2, e2, i, c, fs, rfl, h1, h2, h3, h4⟩ := h.eq
  unfold sFldSet
  rw [e1]
  simp only [Re.on]
  rw [e2]
  simp only [insD, h1, h2, h3, decide_true, Bool.and_self, if_true]
  exact h4
theorem out_of {r : Rs} {d : Dt} {s : Sto} (h : Run r (fun _ s' => d = .non ∧ s' = s) (fun d' s' => d' = d ∧ s' = s)) : outF r = .ok d s := by
  cases r <;> first | exact h.elim | skip
  · obtain ⟨rfl, rfl⟩ := h; rfl
  · obtain ⟨rfl, rfl⟩ := h; rfl
theorem pu_eq {st : Sto} {r : Rs} {d : Dt} (h : Run r (fun _ s => puR st (.ok .non s) = .ok d st) (fun d' s => puR st (.ok d' s) = .ok d st)) : puR st (outF r) = .ok d st := by
  cases r <;> first | exact h.elim | exact h
end
end LT
set_option Elab.async false
set_option linter.all false
set_option maxRecDepth 100000
namespace LT
open PySem PySem.Spec PyProof.Rows L2
mutual
def deq : Dt → Dt → Bool
  | .non, .non => true
  | .bl a, .bl b => a == b
  | .bl a, .int j => (if a then 1 else 0) == j
  | .int i, .bl b => i == (if b then 1 else 0)
  | .int i, .int j => i == j
  | .str a, .str b => a == b
  | .tup xs, .tup ys => deqL xs ys
  | .li xs, .li ys => deqL xs ys
  | .rl xs, .li ys => deqL xs ys
  | .li xs, .rl ys => deqL xs ys
  | .rl xs, .rl ys => deqL xs ys
  | _, _ => false
def deqL : List Dt → List Dt → Bool
  | [], [] => true
  | x :: xs, y :: ys => deq x y && deqL xs ys
  | _, _ => false
end
mutual
/-- data of at most n levels, its texts of ASCII signs -/
def okD : Nat → Dt → Bool
  | _, .non => true
  | _, .bl _ => true
  | _, .int _ => true
  | _, .str s => s.all fun c => decide (c < 1114112)
  | n + 1, .tup xs => okL n xs
  | n + 1, .li xs => okL n xs
  | n + 1, .rl xs => okL n xs
  | _, _ => false
def okL : Nat → List Dt → Bool
  | _, [] => true
  | n, x :: xs => okD n x && okL n xs
end
mutual
def toQ : Dt → PyData
  | .bl b => .bool b
  | .int i => .int i
  | .str s => .str ⟨s.toArray⟩
  | .tup xs => .tuple (toQL xs)
  | .li xs => .list (toQL xs)
  | .rl xs => .list (toQL xs)
  | _ => .none
def toQL : List Dt → List PyData
  | [] => []
  | x :: xs => toQ x :: toQL xs
end
mutual
theorem toP_Q {st : Sto} : ∀ (d : Dt) (n m : Nat), okD n d = true → n < m → toP m st d = some (toQ d)
  | d, n, 0, _, h => by omega
  | .non, n, m + 1, _, _ => by simp only [toP, toQ]
  | .bl b, n, m + 1, _, _ => by simp only [toP, toQ]
  | .int i, n, m + 1, _, _ => by simp only [toP, toQ]
  | .str s, n, m + 1, _, _ => by simp only [toP, toQ]
  | .tup xs, n + 1, m + 1, h, hm => by
    simp only [okD] at h
    simp only [toP, toQ, toPL_Q xs n m h (by omega)]
    rfl
  | .li xs, n + 1, m + 1, h, hm => by
    simp only [okD] at h
    simp only [toP, toQ, toPL_Q xs n m h (by omega)]
    rfl
  | .rl xs, n + 1, m + 1, h, hm => by
    simp only [okD] at h
    simp only [toP, toQ, toPL_Q xs n m h (by omega)]
    rfl
  | .tup xs, 0, m + 1, h, _ => by simp [okD] at h
  | .li xs, 0, m + 1, h, _ => by simp [okD] at h
  | .rl xs, 0, m + 1, h, _ => by simp [okD] at h
  | .ob c fs, n, m + 1, h, _ => by cases n <;> simp [okD] at h
  | .dv c, n, m + 1, h, _ => by cases n <;> simp [okD] at h
  | .ref c, n, m + 1, h, _ => by cases n <;> simp [okD] at h
theorem toPL_Q {st : Sto} : ∀ (ds : List Dt) (n m : Nat), okL n ds = true → n < m → ds.mapM (toP m st) = some (toQL ds)
  | [], _, _, _, _ => rfl
  | d :: ds, n, m, h, hm => by
    simp only [okL, Bool.and_eq_true] at h
    rw [List.mapM_cons, toP_Q d n m h.1 hm, toPL_Q ds n m h.2 hm]
    rfl
end
mutual
theorem canLay_Q : ∀ (d : Dt) (n : Nat), okD n d = true → (toQ d).canLay0 = true ∧ (toQ d).depth ≤ n
  | .non, n, _ => by simp [toQ, PyData.canLay0, PyData.depth]
  | .bl b, n, _ => by simp [toQ, PyData.canLay0, PyData.depth]
  | .int i, n, _ => by simp [toQ, PyData.canLay0, PyData.depth]
  | .str s, n, h => by
    have h' : (s.all fun c => decide (c < 1114112)) = true := by cases n <;> simpa only [okD] using h
    refine ⟨?_, by simp [toQ, PyData.depth]⟩
    simp only [toQ, PyData.canLay0]
    simpa [PyData.strOk] using h'
  | .tup xs, n + 1, h => by
    simp only [okD] at h
    have q := canLayL_Q xs n h
    simp only [toQ, PyData.canLay0, PyData.depth]
    exact ⟨q.1, by omega⟩
  | .li xs, n + 1, h => by
    simp only [okD] at h
    have q := canLayL_Q xs n h
    simp only [toQ, PyData.canLay0, PyData.depth]
    exact ⟨q.1, by omega⟩
  | .rl xs, n + 1, h => by
    simp only [okD] at h
    have q := canLayL_Q xs n h
    simp only [toQ, PyData.canLay0, PyData.depth]
    exact ⟨q.1, by omega⟩
  | .tup xs, 0, h => by simp [okD] at h
  | .li xs, 0, h => by simp [okD] at h
  | .rl xs, 0, h => by simp [okD] at h
  | .ob c fs, n, h => by cases n <;> simp [okD] at h
  | .dv c, n, h => by cases n <;> simp [okD] at h
  | .ref c, n, h => by cases n <;> simp [okD] at h
theorem canLayL_Q : ∀ (ds : List Dt) (n : Nat), okL n ds = true → PyData.canLayAll0 (toQL ds) = true ∧ PyData.depthAll (toQL ds) ≤ n
  | [], _, _ => by simp [toQL, PyData.canLayAll0, PyData.depthAll]
  | d :: ds, n, h => by
    simp only [okL, Bool.and_eq_true] at h
    have q := canLay_Q d n h.1
    have r := canLayL_Q ds n h.2
    simp only [toQL, PyData.canLayAll0, PyData.depthAll, q.1, r.1, Bool.and_self, true_and]
    omega
end
theorem str_beqQ (a b : List Nat) : ((⟨a.toArray⟩ : Str) == ⟨b.toArray⟩) = (a == b) := by
  rw [str_beqL]
mutual
theorem eqv_Q : ∀ (d e : Dt) (n m : Nat), okD n d = true → okD m e = true → PyData.eqv (toQ d) (toQ e) = deq d e
  | .non, e, n, m, _, h2 => by cases e <;> first | rfl | (cases m <;> simp [okD] at h2)
  | .bl b, e, n, m, _, h2 => by cases e <;> first | rfl | (cases m <;> simp [okD] at h2)
  | .int b, e, n, m, _, h2 => by cases e <;> first | rfl | (cases m <;> simp [okD] at h2)
  | .str b, e, n, m, _, h2 => by
    cases e with
    | str c => simp only [toQ, PyData.eqv, deq]; exact str_beqQ b c
    | _ => first | rfl | (cases m <;> simp [okD] at h2)
  | .tup xs, e, n + 1, m, h1, h2 => by
    simp only [okD] at h1
    cases e with
    | tup ys =>
      cases m with
      | zero => simp [okD] at h2
      | succ m =>
        simp only [okD] at h2
        simp only [toQ, PyData.eqv, deq]
        exact eqvL_Q xs ys n m h1 h2
    | _ => first | rfl | (cases m <;> simp [okD] at h2)
  | .li xs, e, n + 1, m, h1, h2 => by
    simp only [okD] at h1
    cases e with
    | li ys =>
      cases m with
      | zero => simp [okD] at h2
      | succ m =>
        simp only [okD] at h2
        simp only [toQ, PyData.eqv, deq]
        exact eqvL_Q xs ys n m h1 h2
    | rl ys =>
      cases m with
      | zero => simp [okD] at h2
      | succ m =>
        simp only [okD] at h2
        simp only [toQ, PyData.eqv, deq]
        exact eqvL_Q xs ys n m h1 h2
    | _ => first | rfl | (cases m <;> simp [okD] at h2)
  | .rl xs, e, n + 1, m, h1, h2 => by
    simp only [okD] at h1
    cases e with
    | li ys =>
      cases m with
      | zero => simp [okD] at h2
      | succ m =>
        simp only [okD] at h2
        simp only [toQ, PyData.eqv, deq]
        exact eqvL_Q xs ys n m h1 h2
    | rl ys =>
      cases m with
      | zero => simp [okD] at h2
      | succ m =>
        simp only [okD] at h2
        simp only [toQ, PyData.eqv, deq]
        exact eqvL_Q xs ys n m h1 h2
    | _ => first | rfl | (cases m <;> simp [okD] at h2)
  | .tup xs, _, 0, _, h, _ => by simp [okD] at h
  | .li xs, _, 0, _, h, _ => by simp [okD] at h
  | .rl xs, _, 0, _, h, _ => by simp [okD] at h
  | .ob c fs, _, n, _, h, _ => by cases n <;> simp [okD] at h
  | .dv c, _, n, _, h, _ => by cases n <;> simp [okD] at h
  | .ref c, _, n, _, h, _ => by cases n <;> simp [okD] at h
theorem eqvL_Q : ∀ (d e : List Dt) (n m : Nat), okL n d = true → okL m e = true → PyData.eqvAll (toQL d) (toQL e) = deqL d e
  | [], [], _, _, _, _ => rfl
  | [], _ :: _, _, _, _, _ => rfl
  | _ :: _, [], _, _, _, _ => rfl
  | d :: ds, e :: es, n, m, h1, h2 => by
    simp only [okL, Bool.and_eq_true] at h1 h2
    simp only [toQL, PyData.eqvAll, deqL, eqv_Q d e n m h1.1 h2.1, eqvL_Q ds es n m h1.2 h2.2]
end
end LT
set_option Elab.async false
set_option linter.all false
set_option maxRecDepth 100000
namespace LT
open PySem PySem.Spec PyProof.Rows L2
def rRepr (K : PySem.W.Frag) : List V → Hp → VK → Prop := fun xs H Q => ∃ v d, xs = [v] ∧ Dp K H v d ∧ d.showable = true ∧ d.hasDict = false ∧ d.depth ≤ 64 ∧ d.shown.length ≤ sizeLine ∧ Q (.str d.shown) H
theorem call_reprD {X : Cx} (hg : X.A.guards = some []) (hu : X.A.units + 66 < cLine) : CallR X (.builtin "repr") (rRepr X.K) := by
  intro pins s σ H xs us Q I r h
  obtain ⟨v, d, rfl, dp, h1, h2, h3, h4, q⟩ := h
  obtain ⟨u, rfl, ru⟩ := vals1 r
  have byRef : ∀ a, u = .ref a → wpAny (model X.prog X.w) X.A (call (.builtin "repr") [u]) (EP X pins σ Q) X.xe s := fun a e => by
    subst e
    obtain ⟨as, rd⟩ := Dp.reads I d v _ dp ru
    exact repr_of_reads' rd h1 (fun z => by rw [h2] at z; cases z) hg (by omega) (fun _ _ z => z) (fun h' u tk hk => ⟨.str _, H, I.kept hk, ⟨_, rfl⟩, q⟩) h4
  cases v with
  | ref a => cases ru; exact byRef a rfl
  | non =>
    cases ru; cases dp
    exact PySem.P.repr_of_none ⟨.str _, H, I.tok _, ⟨_, rfl⟩, q⟩
  | bl b =>
    cases ru; cases dp
    exact PySem.P.repr_of_bool ⟨.str _, H, I.tok _, ⟨_, rfl⟩, q⟩
  | int i =>
    obtain ⟨t, rfl⟩ := ru
    cases dp
    exact PySem.P.repr_of_int (of_decide_eq_true h1) ⟨.str _, H, I.tok _, ⟨_, rfl⟩, q⟩
  | str x =>
    obtain ⟨t, rfl⟩ := ru
    cases dp
    exact PySem.P.repr_of_str ⟨.str _, H, I.tok _, ⟨_, rfl⟩, q⟩ h4
  | byt b => cases dp
  | flt b => cases dp
  | ty b => cases dp
def reprD (xs : List Dt) (st : Sto) : Re Dt := match xs with
  | [x] => match toP 40 st x with
    | some d => if d.showable && SeqAt.shaped d && decide (d.shown.length ≤ sizeLine) then .ok (.str d.shown.cps.toList) st else .stuck
    | none => .stuck
  | _ => .stuck
theorem snd_repr {K : PySem.W.Frag} {T : Tb} : SndC K T (rRepr K) reprD := fun f H st xs vs Wx Q rh r p => by
  cases r with
  | nil => exact p.elim
  | cons rx t =>
    cases t with
    | cons _ _ => exact p.elim
    | nil =>
      rename_i x v
      unfold reprD at p
      simp only at p
      cases hd : toP 40 st x with
      | none => rw [hd] at p; exact p.elim
      | some d =>
        rw [hd] at p
        simp only at p
        split at p
        · rename_i hc
          simp only [Bool.and_eq_true, decide_eq_true_eq] at hc
          exact ⟨v, d, rfl, toP_ok rh 40 x v d rx hd, hc.1.1, PyData.hasDict_of_canLay d (SeqAt.canLay_of_shaped hc.1.2), SeqAt.depth_of_shaped hc.1.2, hc.2, p.now rh (.str _)⟩
        · exact p.elim
def shownD (x : Dt) : List Nat := (toQ x).shown.cps.toList
theorem repr_data {st : Sto} {x : Dt} (hx : okD 38 x = true) (hs : (toQ x).showable = true) (hl : (toQ x).shown.length ≤ sizeLine) : reprD [x] st = .ok (.str (shownD x)) st := by
  have a := canLay_Q x 38 hx
  unfold reprD
  simp only
  rw [toP_Q x 38 40 hx (by decide)]
  simp only
  rw [if_pos (by simp only [hs, SeqAt.shaped, a.1, Bool.true_and, Bool.and_eq_true, decide_eq_true_eq]; omega)]
  rfl
mutual
def wD : Dt → Nat
  | .int _ => 1922
  | .str s => 10 * s.length + 2
  | .tup xs => wL xs + 4
  | .li xs => wL xs + 4
  | .rl xs => wL xs + 4
  | _ => 5
def wL : List Dt → Nat
  | [] => 0
  | x :: xs => wD x + 2 + wL xs
end
theorem str_len_app (a b : Str) : (a ++ b).length = a.length + b.length := by
  have := congrArg List.length (str_app a b)
  rw [List.length_append, len_str, len_str, len_str] at this
  exact this
theorem textFrom_le : ∀ (ts : List Str) (k : Nat) (acc : Str), (textFrom k acc ts).length ≤ acc.length + piled ts
  | [], k, acc => by simp [textFrom, piled]
  | t :: ts, k, acc => by
    have ih := textFrom_le ts (k + 1) (acc ++ (if k > 0 then ", " else "" : String) ++ t)
    rw [textFrom, piled_cons]
    rw [str_len_app, str_len_app] at ih
    have : (Str.ofString (if k > 0 then ", " else "" : String)).length ≤ 2 := by split <;> decide
    omega
theorem listText_le (ts : List Str) : (listText ts).length ≤ piled ts + 2 := by
  unfold listText
  rw [str_len_app]
  have h := textFrom_le ts 0 "["
  have e1 : (Str.ofString "[").length = 1 := by decide
  have e2 : (Str.ofString "]").length = 1 := by decide
  omega
theorem tupleText_le (ts : List Str) : (tupleText ts).length ≤ piled ts + 3 := by
  unfold tupleText
  rw [str_len_app, str_len_app]
  have e1 : (Str.ofString "(").length = 1 := by decide
  have e2 : (Str.ofString (if ts.length == 1 then ",)" else ")" : String)).length ≤ 2 := by split <;> decide
  cases ts with
  | nil =>
    have : (Str.join ", " []).length = 0 := by decide
    omega
  | cons t ts =>
    have := join_length_add (t :: ts) (by simp)
    omega
mutual
theorem shown_le : ∀ (x : Dt) (n : Nat), okD n x = true → (toQ x).showable = true → (toQ x).shown.length ≤ wD x
  | .non, n, _, _ => by show (Str.ofString "None").length ≤ 5; decide
  | .bl b, n, _, _ => by cases b <;> (simp only [toQ, PyData.shown, wD]; decide)
  | .int i, n, _, h => by
    have h' : i.natAbs.log2 < 1920 := of_decide_eq_true (by simpa only [toQ, PyData.showable] using h)
    have e := int_text_length_le (k := 1920) (by decide) h'
    show (Str.ofString (toString i)).length ≤ 1922
    rw [PySem.ofString_length]
    omega
  | .str s, n, h, _ => by
    have h' : (s.all fun c => decide (c < 1114112)) = true := by cases n <;> simpa only [okD] using h
    have e := PySem.StrLaws.reprText_len (⟨s.toArray⟩ : Str) (fun c hc => by
      have hc' : c ∈ s := by simpa using hc
      have := List.all_eq_true.mp h' c hc'
      have := of_decide_eq_true this
      exact Nat.lt_trans this (by decide))
    have e2 : (⟨s.toArray⟩ : Str).length = s.length := by show s.toArray.size = s.length; simp
    simp only [toQ, PyData.shown, wD]
    omega
  | .tup xs, n + 1, h, hs => by
    simp only [okD] at h
    simp only [toQ, PyData.showable] at hs
    have q := shownL_le xs n h hs
    have e := tupleText_le (PyData.shownAll (toQL xs))
    simp only [toQ, PyData.shown, wD]
    omega
  | .li xs, n + 1, h, hs => by
    simp only [okD] at h
    simp only [toQ, PyData.showable] at hs
    have q := shownL_le xs n h hs
    have e := listText_le (PyData.shownAll (toQL xs))
    simp only [toQ, PyData.shown, wD]
    omega
  | .rl xs, n + 1, h, hs => by
    simp only [okD] at h
    simp only [toQ, PyData.showable] at hs
    have q := shownL_le xs n h hs
    have e := listText_le (PyData.shownAll (toQL xs))
    simp only [toQ, PyData.shown, wD]
    omega
  | .tup xs, 0, h, _ => by simp [okD] at h
  | .li xs, 0, h, _ => by simp [okD] at h
  | .rl xs, 0, h, _ => by simp [okD] at h
  | .ob c fs, n, h, _ => by cases n <;> simp [okD] at h
  | .dv c, n, h, _ => by cases n <;> simp [okD] at h
  | .ref c, n, h, _ => by cases n <;> simp [okD] at h
theorem shownL_le : ∀ (xs : List Dt) (n : Nat), okL n xs = true → PyData.showableAll (toQL xs) = true → piled (PyData.shownAll (toQL xs)) ≤ wL xs
  | [], _, _, _ => by simp [toQL, PyData.shownAll, piled, wL]
  | x :: xs, n, h, hs => by
    simp only [okL, Bool.and_eq_true] at h
    simp only [toQL, PyData.showableAll, Bool.and_eq_true] at hs
    have a := shown_le x n h.1 hs.1
    have b := shownL_le xs n h.2 hs.2
    simp only [toQL, PyData.shownAll, piled_cons, wL]
    omega
end
mutual
/-- numbers that can be shown -/
def shD : Dt → Bool
  | .int i => decide (i.natAbs.log2 < 1920)
  | .tup xs => shL xs
  | .li xs => shL xs
  | .rl xs => shL xs
  | _ => true
def shL : List Dt → Bool
  | [] => true
  | x :: xs => shD x && shL xs
end
mutual
theorem showable_Q : ∀ x : Dt, shD x = true → (toQ x).showable = true
  | .non, _ => rfl
  | .bl _, _ => rfl
  | .int i, h => by simpa only [toQ, PyData.showable, shD] using h
  | .str _, _ => rfl
  | .tup xs, h => by simp only [shD] at h; simp only [toQ, PyData.showable]; exact showableL_Q xs h
  | .li xs, h => by simp only [shD] at h; simp only [toQ, PyData.showable]; exact showableL_Q xs h
  | .rl xs, h => by simp only [shD] at h; simp only [toQ, PyData.showable]; exact showableL_Q xs h
  | .ob _ _, _ => rfl
  | .dv _, _ => rfl
  | .ref _, _ => rfl
  | .cl _, _ => rfl
  | .dn _, _ => rfl
  | .er _ _, _ => rfl
theorem showableL_Q : ∀ xs : List Dt, shL xs = true → PyData.showableAll (toQL xs) = true
  | [], _ => rfl
  | x :: xs, h => by
    simp only [shL, Bool.and_eq_true] at h
    simp only [toQL, PyData.showableAll, showable_Q x h.1, showableL_Q xs h.2, Bool.and_self]
end
theorem repr_ok {st : Sto} {x : Dt} (hx : okD 38 x = true) (hs : shD x = true) (hl : wD x ≤ 16777216) : reprD [x] st = .ok (.str (shownD x)) st :=
  repr_data hx (showable_Q x hs) (Nat.le_trans (shown_le x 38 hx (showable_Q x hs)) hl)
end LT
set_option Elab.async false
set_option linter.all false
set_option maxRecDepth 100000
namespace LT
open PySem PySem.Spec PyProof.Rows L2
section
variable {X : Cx} {T : Tb} {W : WX} {e e2 tg : Expr} {pos : Pos} {K : PySem.W.Frag}
def wEnum (w : Wk) : Wk := ⟨fun i st => match w.turn i st with
  | .item a => .item (.tup [.int i, a])
  | .stuck => .stuck
  | .stop => .stop, w.fuel⟩
theorem rw_enum {f : List Addr} {H : Hp} {w1 : Wk} {a : Addr} (h1 : RW K T H f w1 (Itl K a)) : RW K T H f (wEnum w1) (Ite K a) := fun rs i f' H' st hr hp s rh => by
  have t1 := h1 rs i f' H' st hr hp s rh
  show match (match w1.turn i st with
    | .item a => Tn.item (.tup [.int i, a])
    | .stuck => .stuck
    | .stop => .stop) with | .stop => _ | .item d => _ | .stuck => True
  cases e1 : w1.turn i st with
  | stuck => trivial
  | stop =>
    rw [e1] at t1
    obtain ⟨xs, q1, l1⟩ := t1
    exact ⟨xs, q1, l1⟩
  | item d =>
    rw [e1] at t1
    obtain ⟨⟨xs, x, q1, l1⟩, g1⟩ := t1
    refine ⟨⟨xs, x, q1, l1⟩, fun v H2 hy => ?_⟩
    obtain ⟨p, x', rfl, hn, rfl, hx⟩ := hy
    obtain ⟨_, _, r1⟩ := g1 x' H' ⟨rfl, hx⟩
    exact ⟨Stay.new hn, rh.side hn, .tup (.inl (.inl upd_same)) (.cons (.int _) (.cons (r1.mono (List.prefix_refl _) (Stay.new hn)) .nil))⟩
def itL : Dt → Sto → Option Wk
  | .rl ds, _ => some (wTup ds)
  | .li ds, _ => some (wTup ds)
  | .ref i, st => match st[i]? with
    | some (.lst xs) => some (wLst i xs.length)
    | _ => none
  | _, _ => none
theorem itL_ok {f : List Addr} {H : Hp} {st : Sto} {d : Dt} {v : V} {w : Wk} (rh : RH K T f H st) (r : RV K T H f d v) (h : itL d st = some w) : ∃ a xs, v = .ref a ∧ SqL K H a xs ∧ RW K T H f w (Itl K a) := by
  cases r with
  | @rl ds vs a hs r => cases h; exact ⟨a, vs, rfl, hs.sq, rw_rl hs r⟩
  | @li ds vs a hf hs r => cases h; exact ⟨a, vs, rfl, .inl (.inl hs), rw_li hf hs r⟩
  | @ref i a hi =>
    obtain ⟨o, ho⟩ := rh.lt hi
    simp only [itL, ho] at h
    cases o with
    | lst xs =>
      cases h
      obtain ⟨vs, h1, r⟩ := rh.lst hi ho
      exact ⟨a, vs, rfl, .inl (.inl h1), rw_lst hi⟩
    | _ => cases h
  | _ => cases h
end
end LT
set_option Elab.async false
set_option linter.all false
set_option maxRecDepth 100000
namespace LT
open PySem PySem.SeqAt
open AutoSeq1 (wpAny_loadPart')
open MeetsSeq MeetsSeq2 MeetsSeq3 SeqRoads2
section
variable {prog : Program} {w : World} {A : Around} {E : Value → Shared → Prop} {s : Shared} {K : PySem.W.Frag} {y C L f : Addr} {h₀ : Heap} {m : Str → Option Value} {oy : Obj} {od : Option Obj} {u : Value}
end
end LT
set_option Elab.async false
set_option linter.all false
set_option maxRecDepth 100000
namespace LT
open PySem PySem.SeqAt
open AutoSeq1 (wpAny_loadPart')
open MeetsSeq MeetsSeq2 MeetsSeq3 SeqRoads2
section
variable {prog : Program} {w : World} {A : Around} {E : Value → Shared → Prop} {s : Shared}
end
section
variable {prog : Program} {w : World} {A : Around} {R : Result → Shared → Prop}
end
end LT
namespace LT
open PySem PySem.Spec PyProof.Rows L2
section
variable {X : Cx}
end
structure BackOk (K : PySem.W.Frag) (B : Tz) (c : Nat) : Prop where
  no : PySem.W.subIn K (.ref (B.cls c)) (.type "NoneType") = some false
  st : PySem.W.subIn K (.ref (B.cls c)) (.type "str") = some false
  li : PySem.W.subIn K (.ref (B.cls c)) (.type "list") = some false
  tu : PySem.W.subIn K (.ref (B.cls c)) (.type "tuple") = some false
section
variable {X : Cx} {T : Tb}
end
end LT
set_option Elab.async false
set_option linter.all false
set_option maxRecDepth 100000
namespace LT
open PySem PySem.Spec PyProof.Rows
open AutoSeq1 (wpAny_loadPart')
section
variable {P : Program} {w : World} {A : Around}
end
end LT
namespace LT
open PySem PySem.Spec PyProof.Rows L2
section
variable {X : Cx}
end
section
variable {X : Cx} {T : Tb} {W : WX}
theorem re_of {k : Nat} {A : Around} (r : Room k A) : A.units + 66 < cLine := by
  have := r.un
  omega
end
end LT
set_option Elab.async false
set_option linter.all false
set_option maxRecDepth 100000
namespace LT
open PySem PySem.Spec PyProof.Rows L2
theorem wLst_turn {p n i : Nat} {s : Sto} {xs : List Dt} (h : s[p]? = some (.lst xs)) : (wLst p n).turn i s = match xs[i]? with | some d => .item d | none => .stop := by
  show (match s[p]? with
    | some (.lst xs) => match xs[i]? with
      | some d => Tn.item d
      | none => Tn.stop
    | _ => Tn.stuck) = _
  rw [h]
section
variable {P : Dt → Sto → Prop}
theorem giv_lcRef {g : MG} {te : ME} {env : Lo} {s : Sto} {p : Nat} (xs : List Dt) (h : Dt → Dt) (hp : s[p]? = some (.lst xs)) (hn : xs.length < lim) (hgo : ∀ x ∈ xs, ∃ env1, g x env s = .nx env1 s ∧ te env1 s = .ok (h x) s) (k : P (.li (xs.map h)) s) :
    Giv (lcV (wLst p xs.length) g mYes te env (wLst p xs.length).fuel 0 [] s) P := by
  suffices hh : lcV (wLst p xs.length) g mYes te env (wLst p xs.length).fuel 0 [] s = .ok (.li (xs.map h)) s from giv hh k
  have same : ∀ (m i : Nat) (acc : List Dt), lcV (wLst p xs.length) g mYes te env m i acc s = lcV (wTup xs) g mYes te env m i acc s := by
    intro m
    induction m with
    | zero => intro i acc; rfl
    | succ m ih =>
      intro i acc
      unfold lcV
      rw [wLst_turn hp, wTup_turn]
      cases hx : xs[i]? with
      | none => rfl
      | some x =>
        simp only
        obtain ⟨env1, q1, q2⟩ := hgo x (List.mem_of_getElem? hx)
        rw [q1]
        simp only [mYes, q2, ih]
  show lcV (wLst p xs.length) g mYes te env (xs.length + 1) 0 [] s = _
  rw [same]
  exact lcV_map h xs hn hgo
theorem giv_lcAny {g : MG} {te : ME} {env : Lo} {s : Sto} {d : Dt} (xs : List Dt) (h : Dt → Dt) (hs : seqD d s = some xs) (hn : xs.length < lim) (hgo : ∀ x ∈ xs, ∃ env1, g x env s = .nx env1 s ∧ te env1 s = .ok (h x) s) (k : P (.li (xs.map h)) s) :
    Giv (itD d s) fun w s' => Giv (lcV w g mYes te env w.fuel 0 [] s') P := by
  cases d with
  | tup ys => cases hs; exact giv_lcMap xs h hn hgo k
  | li ys => cases hs; exact giv_lcMap xs h hn hgo k
  | rl ys => cases hs; exact giv_lcMap xs h hn hgo k
  | ref p =>
    cases hp : s[p]? with
    | none => simp [seqD, hp] at hs
    | some o =>
      cases o with
      | lst ys =>
        simp only [seqD, hp] at hs
        cases hs
        refine giv (show itD (.ref p) s = .ok (wLst p xs.length) s by simp only [itD, hp]) ?_
        exact giv_lcRef xs h hp hn hgo k
      | _ => simp [seqD, hp] at hs
  | _ => cases hs
theorem len_any {s : Sto} {d : Dt} {xs : List Dt} (hs : seqD d s = some xs) : lenD [d] s = .ok (.int xs.length) s := by
  cases d <;> first | (simp [seqD] at hs; done) | simp only [lenD, hs]
end
end LT
set_option Elab.async false
set_option linter.all false
set_option maxRecDepth 100000
namespace LT
open PySem PySem.Spec PyProof.Rows L2
theorem enumT_new {v : Value} {ob : Obj} {Hy : Heap → Prop} (B : Begins v ob Hy) :
    Meets (Builtin.«enumerate.__new__» ⟨[.type "enumerate", v], []⟩) (fun _ R sh => Hy sh.heap ∧ R (.ok (.ret (.ref (sh.heap.push ob).objs.size))) { sh with heap := (sh.heap.push ob).push { cls := .type "enumerate", data := .fields #[.none, .bool false, .ref sh.heap.objs.size, rawInt 0, .none, .none] } }) :=
  .of_wp fun P w A R sh want => by
    have sub := sub_enumerate
    obtain ⟨h, g, d, tk, os⟩ := sh
    obtain ⟨begin0, want⟩ := want
    have walks : ∀ {A' : Around} {E : Value → Shared → Prop} {Q : Value → Shared → Prop}, Q (.ref h.objs.size) ⟨h.push ob, g, d, tk, os⟩ → wpAny (model P w) A' (pyIter v) Q E ⟨h, g, d, tk, os⟩ := fun {A' E Q} q => B.iter P w A' E ⟨h, g, d, tk, os⟩ Q begin0 q
    wp_walk using walks
    refine wpAny_stack_any fun fr => wpAny_pure ?_
    split
    · rename_i c _ _ _ _ _
      cases c == Value.type "enumerate" <;> (wp_walk using walks; exact ⟨_, rfl, want⟩)
    · wp_walk using walks
      exact ⟨_, rfl, want⟩
section
variable {P : Program} {w : World} {A : Around} {E : Value → Shared → Prop} {sh : Shared}
theorem call_enumT {a : Addr} {its : Array Value} {Q : Value → Shared → Prop} (ha : sh.heap.IsTuple a its)
    (k : ∀ h', IsEnum h' (sh.heap.objs.size + 1) sh.heap.objs.size 0 .none → h'.IsTupleIter sh.heap.objs.size a 0 → (∀ b o, sh.heap.get? b = some o → h'.get? b = some o) → Q (.ref (sh.heap.objs.size + 1)) { sh with heap := h' }) :
    wpAny (model P w) A (call (.type "enumerate") [.ref a]) Q E sh := by
  have two : (sh.heap.push { cls := .type "tuple_iterator", data := .fields #[.ref a, .int 0 0] }).objs.size = sh.heap.objs.size + 1 := Heap.size_push ..
  refine callType_new F.called_enumerate (by decide) (F.typeCall_enumerate_1 _) (F.newCall_enumerate_1 _) (fun o => F.args_object_init_2 o _) F.entry_enumerate_new (enumT_new (begins_tuple a its)) ⟨ha, ?_⟩
  have en : IsEnum ((sh.heap.push { cls := .type "tuple_iterator", data := .fields #[.ref a, .int 0 0] }).push { cls := .type "enumerate", data := .fields #[.none, .bool false, .ref sh.heap.objs.size, rawInt 0, .none, .none] }) (sh.heap.objs.size + 1) sh.heap.objs.size 0 .none := by
    have q := Heap.get?_push_size (sh.heap.push { cls := .type "tuple_iterator", data := .fields #[.ref a, .int 0 0] }) (o := { cls := .type "enumerate", data := .fields #[.none, .bool false, .ref sh.heap.objs.size, rawInt 0, .none, .none] }) rfl
    rwa [two] at q
  show _ ∧ _
  rw [two]
  exact ⟨⟨_, en, rfl⟩, k _ en ⟨_, Heap.get?_push_of_some _ (Heap.get?_push_size _ rfl), rfl, rfl⟩ fun b o q => Heap.get?_push_of_some _ (Heap.get?_push_of_some _ q)⟩
end
def IteT (K : PySem.W.Frag) (a : Addr) : It :=
  ⟨fun i H => ∃ (xs : List V) (x : V), SqT K H a xs ∧ xs[i]? = some x, fun i H v H' => ∃ p x, v = .ref p ∧ H p = none ∧ H' = upd H p (.tup [.int (i : Nat), x]) ∧ ∀ xs, SqT K H a xs → xs[i]? = some x, fun i H => ∃ xs : List V, SqT K H a xs ∧ xs.length = i⟩
theorem turn_enumT {P : Program} {w : World} {K : PySem.W.Frag} {elts : List Expr} {kk : Nat} {tpos : Pos} (a e it : Addr) :
    Turn P w K (.Tuple elts kk tpos) (IteT K a) [e, it] e (fun i h => (∃ old, IsEnum h e it ((i : Nat) : Int) old) ∧ h.IsTupleIter it a i ∧ e ≠ it) where
  mem := List.mem_cons_self
  obj := fun i h tn b hb => by
    obtain ⟨⟨old, en⟩, ⟨o, at0, _, dat⟩, _⟩ := tn
    rcases List.mem_cons.mp hb with rfl | hb
    · exact ⟨_, en, fun v q => nomatch q⟩
    · rw [List.mem_singleton.mp hb]
      exact ⟨o, at0, fun v q => by rw [dat] at q; cases q⟩
  keep := fun i h h' tn kp => by
    obtain ⟨⟨old, en⟩, walk, ne⟩ := tn
    exact ⟨⟨old, kp e List.mem_cons_self _ en⟩, walk.at fun o q => kp it (List.mem_cons_of_mem _ List.mem_cons_self) o q, ne⟩
  item := by
    intro X hP hw hK calm i pins sh lo H E inv fp tn go
    subst hP hw hK
    obtain ⟨⟨old, en⟩, walk, ne⟩ := tn
    obtain ⟨xs, x, seq, hx⟩ := go
    obtain ⟨its, rel, tup, small⟩ := inv.tuple seq
    obtain ⟨u, hu, ru⟩ := rel.get hx
    have isT : sh.heap.IsTuple a its.toArray := tup
    have apart : a ≠ it ∧ a ≠ e := by
      obtain ⟨o1, g1, c1, _⟩ := id isT
      obtain ⟨o2, g2, c2, _⟩ := id walk
      constructor
      · rintro rfl
        rw [g1] at g2
        cases g2
        rw [c1] at c2
        exact absurd c2 (by decide)
      · rintro rfl
        have e2 := g1.symm.trans (show sh.heap.get? a = some _ from en)
        injection e2 with e2
        rw [e2] at c1
        exact absurd (show Value.type "enumerate" = Value.type "tuple" from c1) (by decide)
    have hi : i < its.toArray.size := by
      rw [List.size_toArray]
      exact (List.getElem?_eq_some_iff.mp hu).1
    have hel : e < sh.heap.objs.size := Heap.lt_size en
    have hil : it < sh.heap.objs.size := by obtain ⟨_, q, _⟩ := walk; exact Heap.lt_size q
    refine wpAny_pyNext_enum_itemD (Draws.tuple (prog := X.prog) (w := X.w) (A := X.A.in1) (inv.ok.hd calm) it a apart.1 its.toArray) en ⟨walk, isT⟩ hi ne (by simp [ne, apart.2.symm]) fun y h' tk hy out st' pair _ kept => ?_
    have hyu : y = u := by
      rw [List.getElem?_toArray, hu] at hy
      exact (Option.some.inj hy).symm
    subst hyu
    refine ⟨_, rfl, wpAny_letOwnedTupleGo_enum (s := { sh with heap := h', toks := tk + 1 }) out fun h2 en2 but => ?_⟩
    have pair2 : h2.get? sh.heap.objs.size = some { cls := .type "tuple", data := .seq #[.int i tk, y] } := (but.2 _ (Nat.ne_of_gt hel)).trans pair
    have new : ObjOk X.prog X.w (upd H sh.heap.objs.size (.tup [.int (i : Nat), x])) h2 sh.heap.objs.size (.tup [.int (i : Nat), x]) :=
      ⟨by show 2 ≤ sizeLine; decide, [.int i tk, y], .cons ⟨_, rfl⟩ (.cons ru .nil), ⟨_, pair2, rfl, _, rfl⟩⟩
    refine ⟨.ref sh.heap.objs.size, _, inv.turnedNew (ch := [e, it]) (t' := tk + 1) (fun b ob hb q => ?_) fp (Nat.le_refl _) new, rfl, ⟨_, x, rfl, inv.hok.fresh (Nat.le_refl _), rfl, fun ys hys => by rw [inv.tuple_inj hys seq]; exact hx⟩, ⟨⟨y, ?_⟩, st'.1.at fun o q => (but.2 it (Ne.symm ne)).trans q, ne⟩, fun b hb => ?_⟩
    · exact (but.2 b (fun z => hb (by rw [z]; exact List.mem_cons_self))).trans (kept b ob (fun z => hb (by rw [z]; exact List.mem_cons_self)) (fun z => hb (by rw [z]; exact List.mem_cons_of_mem _ List.mem_cons_self)) q)
    · rw [show ((i + 1 : Nat) : Int) = (i : Int) + 1 by omega]
      exact en2
    · have lt : b < sh.heap.objs.size := by
        rcases List.mem_cons.mp hb with rfl | hb
        · exact hel
        · rw [List.mem_singleton.mp hb]; exact hil
      rw [upd_ne (Nat.ne_of_lt lt)]
      exact (fp b hb).1
  done := by
    intro X hP hw hK calm i pins sh lo H E inv fp tn stop
    subst hP hw hK
    obtain ⟨⟨old, en⟩, walk, ne⟩ := tn
    obtain ⟨xs, seq, hl⟩ := stop
    obtain ⟨its, rel, tup, small⟩ := inv.tuple seq
    have isT : sh.heap.IsTuple a its.toArray := tup
    have apart : a ≠ it := by
      obtain ⟨o1, g1, c1, _⟩ := id isT
      obtain ⟨o2, g2, c2, _⟩ := id walk
      rintro rfl
      rw [g1] at g2
      cases g2
      rw [c1] at c2
      exact absurd c2 (by decide)
    have hz : its.toArray.size = i := by rw [List.size_toArray, ← rel.length]; exact hl
    obtain ⟨f0, f1, f2, f3, f4, f5⟩ := fp it (List.mem_cons_of_mem _ List.mem_cons_self)
    refine wpAny_pyNext_enum_endD (Draws.tuple (prog := X.prog) (w := X.w) (A := X.A.in1) (inv.ok.hd calm) it a apart its.toArray) en (by rw [hz]; exact ⟨walk, isT⟩) fun h' ext => ⟨rfl, inv.turned (t' := sh.toks) (fun b o hb q => ext b o hb q) f0 f1 f3 f4 f5⟩
  self := fun A i sh Q E tn k => by
    obtain ⟨⟨_, en⟩, _⟩ := tn
    exact wpAny_pyIter_enum en k
section
variable {X : Cx} {T : Tb} {W : WX} {e : Expr} {pos : Pos}
def iEnumA (K : PySem.W.Frag) (ta : TA) : TI := fun σ H R => ta σ H fun vs H1 => ∃ a xs, vs = [.ref a] ∧ ((SqL K H1 a xs ∧ R (Ite K a) H1) ∨ (SqT K H1 a xs ∧ R (IteT K a) H1))
theorem pi_enumA {ta : TA} {p tpos : Pos} {elts : List Expr} {kk : Nat} (hg : Gl X "enumerate") (hm : X.mg "enumerate" = none) (ha : PA X [e] ta) (hs : starEach [e] X.env = [(false, eval e X.env)] := by rfl) :
    L2.PI X (.Tuple elts kk tpos) (.Call (.Name "enumerate" p) [e] [] pos) (iEnumA X.K ta) := ⟨fun pins sh lo H R inv ask => Call_ (ld_blt inv hg hm boot_enumerate (PyProof.Rows.callWith_type1 (thn (ha.run pos pins sh lo H _ inv ask) fun us sh1 got => by
  obtain ⟨vs, H1, inv1, rel1, a, xs, rfl, ways⟩ := got
  obtain ⟨u, rfl, ru⟩ := vals1 rel1
  cases ru
  have new : ∀ b ∈ [sh1.heap.objs.size + 1, sh1.heap.objs.size], FpOk X pins H1 b := fun b hb => by
    have le : sh1.heap.objs.size ≤ b := by
      rcases List.mem_cons.mp hb with rfl | hb
      · exact Nat.le_succ _
      · rw [List.mem_singleton.mp hb]; exact Nat.le_refl _
    exact inv1.fpOk le (inv1.hok.fresh le)
  rcases ways with ⟨seq, fin⟩ | ⟨seq, fin⟩
  · obtain ⟨its, rel, lst, _⟩ := inv1.list seq
    exact call_enumerate_list lst.isList fun h' en walk _ kept => wpAny_pyIter_enum en ⟨sh1.heap.objs.size + 1, _, _, _, H1, rfl, inv1.kept (t' := sh1.toks) kept, turn_enum a (sh1.heap.objs.size + 1) sh1.heap.objs.size, ⟨⟨.none, en⟩, walk, Nat.succ_ne_self _⟩, new, fin⟩
  · obtain ⟨its, rel, tup, _⟩ := inv1.tuple seq
    exact call_enumT (show sh1.heap.IsTuple a its.toArray from tup) fun h' en walk kept => wpAny_pyIter_enum en ⟨sh1.heap.objs.size + 1, _, _, _, H1, rfl, inv1.kept (t' := sh1.toks) kept, turn_enumT a (sh1.heap.objs.size + 1) sh1.heap.objs.size, ⟨⟨.none, en⟩, walk, Nat.succ_ne_self _⟩, new, fin⟩) hs rfl))⟩
def wEnumT (ds : List Dt) : Wk := ⟨fun i _ => match ds[i]? with
  | some d => .item (.tup [.int i, d])
  | none => if i = ds.length then .stop else .stuck, ds.length + 1⟩
theorem rw_enumT {K : PySem.W.Frag} {f : List Addr} {H : Hp} {ds : List Dt} {vs : List V} {a : Addr} (hs : SqT K H a vs) (r : RVs K T H f ds vs) : RW K T H f (wEnumT ds) (IteT K a) := fun rs i f' H' st hr hp s rh => by
  show match (match ds[i]? with | some d => Tn.item (.tup [.int i, d]) | none => if i = ds.length then .stop else .stuck) with | .stop => _ | .item d => _ | .stuck => True
  cases hi : ds[i]? with
  | none =>
    simp only
    by_cases e : i = ds.length
    · rw [if_pos e]
      exact ⟨vs, s.t _ _ hs, by rw [← r.len]; exact e.symm⟩
    · rw [if_neg e]
      trivial
  | some d =>
    obtain ⟨v, h1, h2⟩ := r.get hi
    refine ⟨⟨vs, v, s.t _ _ hs, h1⟩, fun x H2 hy => ?_⟩
    obtain ⟨p, x', rfl, hn, rfl, hx⟩ := hy
    have e := (hx vs (s.t _ _ hs)).symm.trans h1
    cases e
    have r1 := h2.view (view_of hp s.toStay0 hr) h2.closed
    exact ⟨Stay.new hn, rh.side hn, .tup (.inl (.inl upd_same)) (.cons (.int _) (.cons (r1.mono (List.prefix_refl _) (Stay.new hn)) .nil))⟩
def enumA (xs : List Dt) (st : Sto) : Re Wk := match xs with
  | [.tup ds] => .ok (wEnumT ds) st
  | [x] => match itL x st with
    | some w1 => .ok (wEnum w1) st
    | _ => .stuck
  | _ => .stuck
def mEnumA (a : MA) : MW := fun env st => (a env st).bind enumA
theorem ii_enumA {elts : List Expr} {kk : Nat} {tpos p : Pos} {ms : MA} (hg : Gl X "enumerate") (hm : X.mg "enumerate" = none) (ha : IA X T W [e] ms) (hs : starEach [e] X.env = [(false, eval e X.env)] := by rfl) : II X T W (.Tuple elts kk tpos) (.Call (.Name "enumerate" p) [e] [] pos) (mEnumA ms) := PIw (pi_enumA hg hm ha hs) fun σ H Q ⟨f, env, st, re, rh, p⟩ =>
  ⟨f, env, st, re, rh, p.bind fun x st1 f1 H1 vx hp s rh1 rx p1 => by
    cases rx with
    | nil => exact p1.elim
    | cons r1 t =>
      cases t with
      | cons _ _ => cases r1 <;> exact p1.elim
      | nil =>
        rename_i x1 v1
        by_cases ht : ∃ ds, x1 = .tup ds
        · obtain ⟨ds, rfl⟩ := ht
          cases r1 with
          | tup hs r => exact ⟨_, _, rfl, .inr ⟨hs, Post.now (rel := RW X.K T) p1 rh1 (rw_enumT hs r)⟩⟩
        · have e : enumA [x1] st1 = (match itL x1 st1 with
            | some w1 => Re.ok (wEnum w1) st1
            | _ => .stuck) := by cases x1 <;> first | rfl | exact absurd ⟨_, rfl⟩ ht
          rw [e] at p1
          cases h1 : itL x1 st1 with
          | none => rw [h1] at p1; exact p1.elim
          | some w1 =>
            rw [h1] at p1
            obtain ⟨a, xs, rfl, q1, rw1⟩ := itL_ok rh1 r1 h1
            exact ⟨a, xs, rfl, .inl ⟨q1, Post.now (rel := RW X.K T) p1 rh1 (rw_enum rw1)⟩⟩⟩
end
theorem gSubL_no (mo mi : ME) : ∀ d env st, (match gSubL mo mi d env st with | .nx _ _ => true | .stuck => true | _ => false) = true := fun d env st => by
  unfold gSubL
  cases mo env st with
  | ok o st1 =>
    simp only
    cases mi env st1 with
    | ok i st2 =>
      simp only
      cases setL o i d st2 <;> rfl
    | _ => rfl
  | _ => rfl
end LT
set_option Elab.async false
set_option linter.all false
set_option maxRecDepth 100000
namespace LT
open PySem PySem.Spec PyProof.Rows L2
theorem tr_run {M : List Nat} {I : Sto → Prop} (S : Src M I) {st : Sto} {r : Rs} {Q : Dt → Prop} (h : I st) (hq : ∀ d, Q d → clD st.length d = true) (k : Run r (fun _ _ => False) (fun d st2 => Q d ∧ Xm M st st2 ∧ I st2)) : ∃ d st', trR st (outF r) = .ok d st' ∧ Q d ∧ Ds M I st st' := by
  cases r <;> first | exact k.elim | skip
  obtain ⟨q, x, h2⟩ := k
  obtain ⟨e, D⟩ := trR_src S h x h2 (hq _ q)
  exact ⟨_, _, e, q, D⟩
def Bq (b : Nat) (st : Sto) : Prop := ∃ c s n : Int, st[b]? = some (.lst [.int c, .int s, .int n])
theorem bq_src (b : Nat) : Src [b] (Bq b) where
  lt := fun s h i hi => by
    obtain ⟨c, z, n, h⟩ := h
    rw [List.mem_singleton.mp hi]
    exact (List.getElem?_eq_some_iff.mp h).1
  cl := fun s h i hi o n ho hn => by
    obtain ⟨c, z, k, h⟩ := h
    rw [List.mem_singleton.mp hi, h] at ho
    cases ho
    rfl
  fr := fun s s' e h => by
    obtain ⟨c, z, n, h⟩ := h
    exact ⟨c, z, n, by rw [e b List.mem_cons_self]; exact h⟩
section
variable {st : Sto} {b : Nat} {c s n : Int} {P : Dt → Sto → Prop} {env : Lo} {N : Lo → Sto → Prop} {R : Dt → Sto → Prop}
theorem bq_0 (h : st[b]? = some (.lst [.int c, .int s, .int n])) : ixD (.ref b) (.int 0) st = .ok (.int c) st := by
  simp only [ixD, seqD, h]
  rfl
theorem bq_1 (h : st[b]? = some (.lst [.int c, .int s, .int n])) : ixD (.ref b) (.int 1) st = .ok (.int s) st := by
  simp only [ixD, seqD, h]
  rfl
theorem bq_2 (h : st[b]? = some (.lst [.int c, .int s, .int n])) : ixD (.ref b) (.int 2) st = .ok (.int n) st := by
  simp only [ixD, seqD, h]
  rfl
theorem bq_s0 {d : Dt} (h : st[b]? = some (.lst [.int c, .int s, .int n])) : setL (.ref b) (.int 0) d st = some (st.set b (.lst [d, .int s, .int n])) := by
  simp only [setL, h]
  rfl
theorem bq_s1 {d : Dt} (h : st[b]? = some (.lst [.int c, .int s, .int n])) : setL (.ref b) (.int 1) d st = some (st.set b (.lst [.int c, d, .int n])) := by
  simp only [setL, h]
  rfl
theorem bq_s2 {d : Dt} (h : st[b]? = some (.lst [.int c, .int s, .int n])) : setL (.ref b) (.int 2) d st = some (st.set b (.lst [.int c, .int s, d])) := by
  simp only [setL, h]
  rfl
theorem run_subL {mo mi : ME} {d o i : Dt} {st3 : Sto} (h1 : mo env st = .ok o st) (h2 : mi env st = .ok i st) (h3 : setL o i d st = some st3) (k : N env st3) : Run (gSubL mo mi d env st) N R := by
  unfold gSubL
  rw [h1]
  simp only
  rw [h2]
  simp only
  rw [h3]
  exact k
theorem giv_mulI {i j : Int} (h : cMul i j = true) (k : P (.int (i * j)) st) : Giv (mulD (.int i) (.int j) st) P := by
  have e : mulD (.int i) (.int j) st = .ok (.int (i * j)) st := by
    simp only [mulD]
    rw [if_pos h]
  exact giv e k
theorem giv_modI {i j : Int} (h : 0 < j) (k : P (.int (i % j)) st) : Giv (modD (.int i) (.int j) st) P := by
  have e : modD (.int i) (.int j) st = .ok (.int (i % j)) st := by
    simp only [modD, i2c]
    rw [if_pos (by simpa using h)]
  exact giv e k
theorem giv_fdivI {i j : Int} (h : 0 < j) (h2 : j < 1073741824) (k : P (.int (i / j)) st) : Giv (fdivD (.int i) (.int j) st) P := by
  have e : fdivD (.int i) (.int j) st = .ok (.int (i / j)) st := by
    simp only [fdivD, i2c]
    rw [if_pos (by simp [h, h2])]
  exact giv e k
theorem giv_cint {i : Int} (k : P (.int i) st) : Giv (cintD [.int i] st) P := k
end
end LT
set_option Elab.async false
set_option linter.all false
set_option maxRecDepth 100000
namespace LT
open PySem PySem.Spec PyProof.Rows L2
section
variable {K : PySem.W.Frag} {T : Tb}
end
end LT
set_option Elab.async false
set_option linter.all false
set_option maxRecDepth 100000
namespace LT
open PySem PySem.Spec PyProof.Rows L2
section
variable {P : Dt → Sto → Prop}
theorem giv_lcStr {g : MG} {te : ME} {env : Lo} {s : Sto} (w : List Nat) (h : Dt → Dt) (hn : w.length < lim) (hgo : ∀ c ∈ w, ∃ env1, g (.str [c]) env s = .nx env1 s ∧ te env1 s = .ok (h (.str [c])) s) (k : P (.li (w.map fun c => h (.str [c]))) s) :
    Giv (lcV (wStr w) g mYes te env (wStr w).fuel 0 [] s) P := by
  have turn : ∀ i, (wStr w).turn i s = (wTup (w.map fun c => Dt.str [c])).turn i s := fun i => by
    show (match w[i]? with | some c => Tn.item (.str [c]) | none => Tn.stop) = (match (w.map fun c => Dt.str [c])[i]? with | some d => Tn.item d | none => Tn.stop)
    rw [List.getElem?_map]
    cases w[i]? <;> rfl
  have same : ∀ (m i : Nat) (acc : List Dt), lcV (wStr w) g mYes te env m i acc s = lcV (wTup (w.map fun c => Dt.str [c])) g mYes te env m i acc s := by
    intro m
    induction m with
    | zero => intro i acc; rfl
    | succ m ih =>
      intro i acc
      unfold lcV
      rw [turn]
      cases hx : (wTup (w.map fun c => Dt.str [c])).turn i s with
      | stop => rfl
      | stuck => rfl
      | item x =>
        simp only
        have hm : ∃ c ∈ w, x = .str [c] := by
          rw [wTup_turn, List.getElem?_map] at hx
          cases hc : w[i]? with
          | none => rw [hc] at hx; cases hx
          | some c => rw [hc] at hx; cases hx; exact ⟨c, List.mem_of_getElem? hc, rfl⟩
        obtain ⟨c, hc, rfl⟩ := hm
        obtain ⟨env1, q1, q2⟩ := hgo c hc
        rw [q1]
        simp only [mYes, q2, ih]
  have e : lcV (wStr w) g mYes te env (wStr w).fuel 0 [] s = .ok (.li ((w.map fun c => Dt.str [c]).map h)) s := by
    rw [same]
    show lcV _ g mYes te env (w.length + 1) 0 [] s = _
    have := lcV_map (g := g) (te := te) (env := env) (st := s) h (w.map fun c => Dt.str [c]) (by rw [List.length_map]; exact hn) (fun x hx => by
      obtain ⟨c, hc, rfl⟩ := List.mem_map.mp hx
      exact hgo c hc)
    rw [List.length_map] at this
    exact this
  refine giv e ?_
  rw [List.map_map]
  exact k
theorem giv_itS {w : List Nat} {s : Sto} {PW : Wk → Sto → Prop} (k : PW (wStr w) s) : Giv (itD (.str w) s) PW := k
end
end LT
set_option Elab.async false
set_option linter.all false
set_option maxRecDepth 100000
namespace LT
open PySem PySem.Spec PyProof.Rows L2
def FldA (cs : List Nat) (k : Nat) (x : Dt) (s : Sto) (P : Dt → Prop) : Prop := ∃ c fs d, objD x s = some (c, fs) ∧ cs.contains c = true ∧ fs.lookup k = some d ∧ P d
theorem fldA_id {cs : List Nat} {k : Nat} {x : Dt} {s : Sto} {P : Dt → Prop} (h : FldA cs k x s P) : FldA cs k x s P := h
theorem fldA_i {cs : List Nat} {k c : Nat} {fs : List (Nat × Dt)} {x d : Dt} {s : Sto} {P : Dt → Prop} (h1 : objD x s = some (c, fs)) (h2 : cs.contains c = true) (h3 : fs.lookup k = some d) (h : P d) : FldA cs k x s P := ⟨c, fs, d, h1, h2, h3, h⟩
theorem giv_fldA {cs : List Nat} {k : Nat} {a : ME} {env : Lo} {st : Sto} {P : Dt → Sto → Prop} (h : Giv (a env st) fun x s => FldA cs k x s fun d => P d s) : Giv (mFld cs k a env st) P := giv_bind (h.mono fun x s q => by
  obtain ⟨c, fs, d, h1, h2, h3, q⟩ := q
  simp only [h1, h2, h3, if_true]
  exact q)
end LT
set_option Elab.async false
set_option linter.all false
set_option maxRecDepth 100000
namespace LT
open PySem PySem.Spec PyProof.Rows L2
abbrev PX := Nat → List (Nat × Dt) → Sto → Prop
def GivX {α : Type} (r : Re α) (P : α → Sto → Prop) (E : PX) : Prop := match r with
  | .ok a s => P a s
  | .exc c fs s => E c fs s
  | .stuck => False
def RunX (r : Rs) (N : Lo → Sto → Prop) (R : Dt → Sto → Prop) (E : PX) : Prop := match r with
  | .nx e s => N e s
  | .rt d s => R d s
  | .ex _ c fs s => E c fs s
  | _ => False
section
variable {α β : Type} {env : Lo} {st s1 : Sto} {N : Lo → Sto → Prop} {R : Dt → Sto → Prop} {E : PX} {P : Dt → Sto → Prop} {PL : List Dt → Sto → Prop} {PB : Bool → Sto → Prop}
theorem rx {r : Rs} (h : Run r N R) : RunX r N R E := by
  cases r <;> first | exact h | exact h.elim
theorem GivX.mono {r : Re α} {P Q : α → Sto → Prop} (h : GivX r P E) (k : ∀ a s, P a s → Q a s) : GivX r Q E := by
  cases r with
  | ok a s => exact k a s h
  | exc c fs s => exact h
  | stuck => exact h
end
end LT
set_option Elab.async false
set_option linter.all false
set_option maxRecDepth 100000
namespace LT
open PySem PySem.Spec PyProof.Rows L2
section
variable {X : Cx} {T : Tb} {W : WX} {a b : Expr} {pos : Pos} {ma mb : ME} {k c : Nat} {F : MF}
def mIxO (c : Nat) (F : MF) (ma mb : ME) : ME := fun env st => (ma env st).bind fun x s1 => (mb env s1).bind fun y s2 => if clsD x s2 = some c then F [x, y] s2 else .stuck
structure IxOk (P : Program) (w : World) (K : PySem.W.Frag) (mg : Str → Option Value) (base : Heap) (T : Tz) (c k : Nat) (F : MF) : Prop where
  ex : ∃ f fd ps, PySem.W.findIn K (.ref (T.cls c)) "__getitem__" = some (some (.ref f)) ∧ PySem.W.fnIn K f = true ∧ PySem.W.isFn K (.ref f) = true ∧ Binds K fd ps [] ∧ FnOk P w K mg base (L2.CX P w) k f fd ps (spF K T 2 F)
end
section
variable {env : Lo} {st : Sto} {P : Dt → Sto → Prop} {E : PX}
theorem giv_ixO {c : Nat} {F : MF} {a b : ME} (h : Giv (a env st) fun x s => Giv (b env s) fun y s2 => clsD x s2 = some c ∧ Giv (F [x, y] s2) P) : Giv (mIxO c F a b env st) P := giv_bind (h.mono fun x s q => giv_bind (q.mono fun y s2 z => by
  show Giv (if _ then _ else _) P
  rw [if_pos z.1]
  exact z.2))
end
end LT
set_option Elab.async false
set_option linter.all false
set_option maxRecDepth 100000
namespace LT
open PySem PySem.Spec PyProof.Rows L2
section
variable {X : Cx} {T : Tb} {W : WX}
abbrev HE := Lo → Nat → List (Nat × Dt) → Option (Option Dt)
end
section
variable {env : Lo} {st : Sto} {N : Lo → Sto → Prop} {R : Dt → Sto → Prop} {E : PX}
end
end LT
set_option Elab.async false
set_option linter.all false
set_option maxRecDepth 100000
namespace LT
open PySem PySem.SeqAt
open AutoSeq1 (wpAny_loadPart')
open MeetsSeq MeetsSeq2 MeetsSeq3 SeqRoads2
section
variable {prog : Program} {w : World} {A : Around} {R : Result → Shared → Prop}
end
end LT
namespace LT
open PySem PySem.Spec PyProof.Rows L2
section
variable {X : Cx}
variable {T : Tb}
end
end LT
set_option Elab.async false
set_option linter.all false
set_option maxRecDepth 100000
namespace LT
open PySem PySem.Spec PyProof.Rows L2
structure SuROk (K : PySem.W.Frag) (mg : Str → Option Value) (T : Tz) (x xA fn : Str) (k : Nat) (m : Nat → Option Bool) (isA : Nat → Bool) : Prop where
  nm : T.fld k = fn
  ex : ∃ Cx CA, mg x = some (.ref Cx) ∧ mg xA = some (.ref CA) ∧ (∀ c, m c = some false → PySem.W.exmOne K (.ref (T.cls c)) (.ref Cx) = some false) ∧
    ∀ c, m c = some true → PySem.W.exmOne K (.ref (T.cls c)) (.ref Cx) = some true ∧ ExcC K (T.cls c) ∧ XfC K (T.cls c) ∧ PySem.W.findIn K (.ref (T.cls c)) fn = some none ∧ PySem.W.kitOne K (.ref (T.cls c)) (.ref CA) = some (isA c)
section
variable {X : Cx} {T : Tb} {W : WX}
end
end LT
set_option Elab.async false
set_option linter.all false
set_option maxRecDepth 100000
namespace LT
open PySem PySem.Spec PyProof.Rows L2
section
variable {K : PySem.W.Frag} {T : Tb}
def splitD (x : Dt) (ys : List Dt) (st : Sto) : Re Dt := match x, ys with
  | .str a, [.str S] => if S ≠ [] ∧ S.all (fun c => decide (c < 256)) = true ∧ a.length ≤ lim then .ok (.li ((TL.spl S 0 [] a).map Dt.str)) st else .stuck
  | _, _ => .stuck
end
section
variable {X : Cx} {T : Tb} {W : WX} {C f g p : Addr} {mc : Value} {k n c i : Nat} {fd : FuncData} {ps : List Str} {sp : Sp} {F : MF} {ds : List Value} {dv : List Dt} {dvs : List V} {m x : Str} {o e : Expr} {es : List Expr} {mo : ME} {ms : MA} {ta : TE} {t : TA} {apos pos pp : Pos}
def mCM (c n : Nat) (F : MF) (a : MA) : ME := fun env st => (a env st).bind fun ds st1 => if ds.length + 1 = n then F (.cl c :: ds) st1 else .stuck
structure CmOk (P : Program) (w : World) (K : PySem.W.Frag) (mg : Str → Option Value) (base : Heap) (B : Tz) (x m : Str) (c k n : Nat) (F : MF) : Prop where
  ex : ∃ p g mc fd ps, mg x = some (.ref (B.cls c)) ∧ ClX.CRead K (B.cls c) mc ∧ ClX.CMet K (B.cls c) mc m p g ∧ Binds K fd ps [] ∧ FnOk P w K mg base (L2.CX P w) k g fd ps (spF K B n F)
noncomputable def mMakeL (i c n : Nat) (F : MF) (a : MA) (dv : List Dt) : ME := fun env st => match env[i]? with
  | some (some (.cl c')) => if c' = c then mMakeV c n F a dv env st else .stuck
  | _ => .stuck
end
section
variable {env : Lo} {st : Sto} {P : Dt → Sto → Prop} {E : PX}
theorem giv_split {a S : List Nat} (h1 : S ≠ []) (h2 : S.all (fun c => decide (c < 256)) = true) (h3 : a.length ≤ lim) (k : P (.li ((TL.spl S 0 [] a).map Dt.str)) st) : Giv (splitD (.str a) [.str S] st) P := by
  unfold splitD
  simp only
  rw [if_pos ⟨h1, h2, h3⟩]
  exact k
theorem giv_cm {c n : Nat} {F : MF} {a : MA} (h : Giv (a env st) fun ds s => ds.length + 1 = n ∧ Giv (F (.cl c :: ds) s) P) : Giv (mCM c n F a env st) P := giv_bind (h.mono fun ds s q => by
  rw [if_pos q.1]
  exact q.2)
theorem giv_makeL {i c n : Nat} {F : MF} {a : MA} {dv : List Dt} (hi : env[i]? = some (some (.cl c))) (h : Giv (mMakeV c n F a dv env st) P) : Giv (mMakeL i c n F a dv env st) P := by
  unfold mMakeL
  rw [hi]
  simp only [if_true]
  exact h
end
end LT
set_option Elab.async false
set_option linter.all false
set_option maxRecDepth 100000
namespace LT
open PySem PySem.Spec PyProof.Rows L2
def rng2D (xs : List Dt) (st : Sto) : Re Wk := match xs with
  | [.int m, .int n] => if -1000000 ≤ m ∧ m ≤ 1000000 ∧ -1000000 ≤ n ∧ n ≤ 1000000 then .ok (wRng m (n - m).toNat) st else .stuck
  | _ => .stuck
def mRng2 (a : MA) : MW := fun env st => (a env st).bind rng2D
section
variable {X : Cx} {T : Tb} {W : WX} {tg e e2 : Expr} {pos : Pos}
end
theorem giv_rng2 {a : MA} {env : Lo} {st : Sto} {PW : Wk → Sto → Prop} (h : Giv (a env st) fun xs s => ∃ m n : Int, xs = [.int m, .int n] ∧ -1000000 ≤ m ∧ m ≤ 1000000 ∧ -1000000 ≤ n ∧ n ≤ 1000000 ∧ PW (wRng m (n - m).toNat) s) : Giv (mRng2 a env st) PW := giv_bind (h.mono fun xs s q => by
  obtain ⟨m, n, rfl, h1, h2, h3, h4, q⟩ := q
  unfold rng2D
  simp only
  rw [if_pos ⟨h1, h2, h3, h4⟩]
  exact q)
end LT
set_option Elab.async false
set_option linter.all false
set_option maxRecDepth 100000
namespace LT
open PySem PySem.Spec PyProof.Rows L2
def mCases (z : List Nat) : List (List (List Nat) × MS) → MS
  | [] => sNx
  | (ws, b) :: r => if z ∈ ws then b else mCases z r
def sMatch (e : ME) (cs : List (List (List Nat) × MS)) : MS := fun env st => (e env st).on env fun d st1 => match d with
  | .str z => mCases z cs env st1
  | _ => .stuck
section
variable {X : Cx} {T : Tb} {W : WX}
inductive PatOk : Pattern → List (List Nat) → Prop
  | one {w : Str} {ws : List Nat} {j : Nat} {p pos : Pos} (h : w.cps.toList = ws) : PatOk (.MatchValue (.Constant (.str w) j p) pos) [ws]
  | two {w v : Str} {ws vs : List Nat} {j j2 : Nat} {p p2 q q2 pos : Pos} (h : w.cps.toList = ws) (h2 : v.cps.toList = vs) : PatOk (.MatchOr [.MatchValue (.Constant (.str w) j p) q, .MatchValue (.Constant (.str v) j2 p2) q2] pos) [ws, vs]
inductive CasesOk (X : Cx) (T : Tb) (W : WX) : List MatchCase → List (List (List Nat) × MS) → Prop
  | nil : CasesOk X T W [] []
  | cons {pat : Pattern} {body : List Stmt} {ws : List (List Nat)} {b : MS} {r : List MatchCase} {cs : List (List (List Nat) × MS)} (P : PatOk pat ws) (hb : ISs X T W body b) (t : CasesOk X T W r cs) : CasesOk X T W (⟨pat, none, body⟩ :: r) ((ws, b) :: cs)
end
section
variable {env : Lo} {st : Sto} {N : Lo → Sto → Prop} {R : Dt → Sto → Prop}
theorem run_match {e : ME} {cs : List (List (List Nat) × MS)} (h : Giv (e env st) fun d s => ∃ z, d = .str z ∧ Run (mCases z cs env s) N R) : Run (sMatch e cs env st) N R := by
  obtain ⟨d, s, e1, z, rfl, k⟩ := h.eq
  unfold sMatch
  rw [e1]
  exact k
end
end LT
set_option Elab.async false
set_option linter.all false
set_option maxRecDepth 100000
namespace LT
open PySem PySem.Spec PyProof.Rows L2
section
variable {K : PySem.W.Frag} {T : Tb}
end
section
variable {X : Cx} {T : Tb} {W : WX}
theorem PostG.mono {f f1 : List Addr} {H H1 : Hp} {r : Rs} {Q : L2.St → Hp → Prop} (h : PostG X.K T f H r Q) (hp : f <+: f1) (s : Stay X.K T f H f1 H1) : PostG X.K T f1 H1 r Q := by
  cases r with
  | nx e st => exact fun f' H' σ' p q => h f' H' σ' (hp.trans p) (s.trans q)
  | _ => exact h
end
def allRef : List Value → Bool
  | [] => true
  | .ref _ :: r => allRef r
  | _ => false
structure LenOk (K : PySem.W.Frag) (mg : Str → Option Value) (x : Str) (n : Nat) : Prop where
  ex : ∃ a od its m sl, mg x = some (.ref a) ∧ K.lookup a = some ⟨.type "tuple", od, .seq its m, sl⟩ ∧ its.size ≤ sizeLine ∧ its.size = n ∧ allRef its.toList = true
end LT
set_option Elab.async false
set_option linter.all false
set_option maxRecDepth 100000
namespace LT
end LT
set_option Elab.async false
set_option linter.all false
set_option maxRecDepth 100000
namespace LT
open PySem PySem.Spec PyProof.Rows L2
def sPar3 (i j l : Nat) (a : MA) : MS := fun env st => (a env st).on env fun ds st1 => match ds with
  | [x, y, z] => .nx (((env.set i (some x)).set j (some y)).set l (some z)) st1
  | _ => .stuck
theorem run_par3 {i j l : Nat} {a : MA} {env : Lo} {st : Sto} {N : Lo → Sto → Prop} {R : Dt → Sto → Prop} (h : Giv (a env st) fun ds s => ∃ x y z, ds = [x, y, z] ∧ N (((env.set i (some x)).set j (some y)).set l (some z)) s) : Run (sPar3 i j l a env st) N R := by
  obtain ⟨ds, s, e, x, y, z, rfl, k⟩ := h.eq
  unfold sPar3
  rw [e]
  exact k
end LT
namespace LT
open PySem PySem.Spec PyProof.Rows L2
section
variable {X : Cx} {T : Tb} {W : WX} {pos p : Pos} {k n : Nat} {F : MF} {x : Str}
end
end LT
set_option Elab.async false
set_option linter.all false
set_option maxRecDepth 100000
namespace LT
open PySem PySem.Spec PyProof.Rows L2
theorem walk_ltE {l : PySem.W.OpenLaw} {q : Program} {loose : List Str} {XP : (Str → Option Value) → Heap → Prop} {YP : World → Heap → Prop} {d : DefRec} {k : Nat} {x : Str} (hn : l.most = some 63) (hdf : d.params.defaults = []) (hr : Room k callerA)
    (hF : ∀ (w : World) (mg : Str → Option Value) (fa : Addr) (h : Heap), YP w h → h.Ns mainGlobals mg → mg d.name = some (.ref fa) → ∃ K : PySem.W.Frag, K.In h ∧ ∃ fd : FuncData, (∀ (s : Shared) (u : Value), BindsTo s fd ⟨[u], []⟩ [(x, u)]) ∧ ∀ b0 : Heap, K.In b0 → b0.Ns mainGlobals mg → FnG l.prog w K mg b0 k fa fd [x] (spLaw K)) :
    PySem.W.WalkO q loose XP YP l.row.toRowW d [] (fun f vs => PySem.call f vs) :=
  Att.attach_call hn hdf fun w _ sh mg mb fa _ _ _ _ sc us ns top Y _ _ _ hmg hobj hints hlen hg => by
    obtain ⟨K, ki, fd, bd, G⟩ := hF w mg fa _ Y top.T.g hmg
    exact lawG_call ki top.T.g top.T.b top.T.builtins top.T.nolimit hg hobj hints hlen hr G bd
end LT
set_option Elab.async false
set_option linter.all false
set_option maxRecDepth 100000
namespace LT
open PySem PySem.Spec PyProof.Rows L2

section
variable {X : Cx} {pins : List (Addr × Obj)} {σ : L2.St} {H : Hp} {s : Shared} {a b : Addr} {kvs more : List (Key × V)} {A : Around} {E : Value → Shared → Prop}
end
section
variable {X : Cx} {T : Tb} {W : WX} {o e : Expr} {apos cpos : Pos}
def mUpd (mo me : ME) : ME := fun env st => (mo env st).bind fun x st1 => match x with
  | .ref n => (match st1[n]? with
    | some (.dk _) => (me env st1).bind fun y st2 => (match y with
      | .ref m => (match st2[n]?, st2[m]? with
        | some (.dk kvs), some (.dk more) => if n < m ∧ kvs.length + more.length < lim then .ok .non (st2.set n (.dk (more.foldl (fun acc q => putD q.1 q.2 acc) kvs))) else .stuck
        | _, _ => .stuck)
      | _ => .stuck)
    | _ => .stuck)
  | _ => .stuck
end
end LT
set_option Elab.async false
set_option linter.all false
set_option maxRecDepth 100000
namespace LT
open PySem PySem.Spec PyProof.Rows L2
def hF (m : Nat → Option Bool) (k : Nat) : HE := fun _ c fs => match m c with
  | none => none
  | some false => some none
  | some true => (fs.lookup k).map some
structure SuFOk (K : PySem.W.Frag) (mg : Str → Option Value) (T : Tz) (x fn : Str) (k : Nat) (m : Nat → Option Bool) : Prop where
  nm : T.fld k = fn
  ex : ∃ Cx, mg x = some (.ref Cx) ∧ (∀ c, m c = some false → PySem.W.exmOne K (.ref (T.cls c)) (.ref Cx) = some false) ∧
    ∀ c, m c = some true → PySem.W.exmOne K (.ref (T.cls c)) (.ref Cx) = some true ∧ ExcC K (T.cls c) ∧ XfC K (T.cls c) ∧ PySem.W.findIn K (.ref (T.cls c)) fn = some none
section
variable {X : Cx} {T : Tb} {W : WX}
end
section
variable {K : PySem.W.Frag} {T : Tb}
end
end LT
set_option Elab.async false
set_option linter.all false
set_option maxRecDepth 100000
namespace LT
open PySem PySem.Spec PyProof.Rows L2
inductive Hit2 (K : PySem.W.Frag) (H : Hp) : List (Key × V) → List (Key × V) → Bool → Prop
  | nil : Hit2 K H [] [] true
  | cons {k : Key} {v v' : V} {r r' : List (Key × V)} {d e : PyData} {b : Bool} (h1 : Dp K H v d) (h2 : Dp K H v' e) (s1 : SeqAt.shaped d = true) (s2 : SeqAt.shaped e = true) (s3 : d.depth ≤ 60) (t : Hit2 K H r r' b) : Hit2 K H ((k, v) :: r) ((k, v') :: r') (PyData.eqv d e && b)
section
variable {X : Cx} {pins : List (Addr × Obj)} {σ : L2.St} {H : Hp} {s : Shared}
theorem Hit2.len {K : PySem.W.Frag} {H : Hp} {a b : List (Key × V)} {r : Bool} (h : Hit2 K H a b r) : a.length = b.length := by
  induction h with
  | nil => rfl
  | cons _ _ _ _ _ _ ih => simp [ih]
end
section
variable {K : PySem.W.Frag} {T : Tb}
end
end LT
set_option Elab.async false
set_option linter.all false
set_option maxRecDepth 100000
namespace LT
open PySem PySem.Spec PyProof.Rows L2
def listS (xs : List Dt) (st : Sto) : Re Dt := match xs with
  | [.str w] => if w.length ≤ lim then .ok (.li (w.map fun c => .str [c])) st else .stuck
  | xs => listV xs st
section
variable {K : PySem.W.Frag} {T : Tb}
end
theorem giv_listS {w : List Nat} {st : Sto} {P : Dt → Sto → Prop} (h : w.length ≤ lim) (k : P (.li (w.map fun c => .str [c])) st) : Giv (listS [.str w] st) P := by
  simp only [listS]
  rw [if_pos h]
  exact k
section
variable {env : Lo} {st : Sto} {P : Dt → Sto → Prop} {N : Lo → Sto → Prop} {R : Dt → Sto → Prop} {PP : List (Dt × Dt) → Sto → Prop}
theorem giv_pairsN (h : PP [] st) : Giv (mPairs [] env st) PP := h
theorem giv_pairsC {a b : ME} {r : List (ME × ME)} (h : Giv (a env st) fun x s1 => Giv (b env s1) fun y s2 => Giv (mPairs r env s2) fun ps s3 => PP ((x, y) :: ps) s3) : Giv (mPairs ((a, b) :: r) env st) PP :=
  giv_bind (h.mono fun _ _ q => giv_bind (q.mono fun _ _ q => giv_bind q))
theorem giv_disp {prs : List (ME × ME)} (h : Giv (mPairs prs env (st ++ [.dk []])) fun ps s => s[st.length]? = some (.dk []) ∧ (ps.all (fun q => isKey q.1) && decide (ps.length ≤ 15)) = true ∧ P (.ref st.length) (s.set st.length (.dk (mergeD ps)))) : Giv (mDisp prs env st) P :=
  giv_bind (h.mono fun ps s q => by
    obtain ⟨q1, q2, q3⟩ := q
    rw [q1]
    simp only
    rw [if_pos q2]
    exact q3)
theorem giv_upd {mo me : ME} (h : Giv (mo env st) fun x s1 => ∃ n kv0, x = .ref n ∧ s1[n]? = some (.dk kv0) ∧ Giv (me env s1) fun y s2 => ∃ m kvs more, y = .ref m ∧ s2[n]? = some (.dk kvs) ∧ s2[m]? = some (.dk more) ∧ n < m ∧ kvs.length + more.length < lim ∧ P .non (s2.set n (.dk (more.foldl (fun acc q => putD q.1 q.2 acc) kvs)))) : Giv (mUpd mo me env st) P :=
  giv_bind (h.mono fun x s1 q => by
    obtain ⟨n, kv0, rfl, q1, q2⟩ := q
    simp only [q1]
    refine giv_bind (q2.mono fun y s2 q => ?_)
    obtain ⟨m, kvs, more, rfl, h1, h2, h3, h4, h5⟩ := q
    simp only [h1, h2]
    rw [if_pos ⟨h3, h4⟩]
    exact h5)
theorem run_keySet {o i v : ME} (h : Giv (v env st) fun d s1 => Giv (o env s1) fun x s2 => Giv (i env s2) fun y s3 => ∃ n kvs, x = .ref n ∧ s3[n]? = some (.dk kvs) ∧ (isKey y && decide (kvs.length < lim)) = true ∧ N env (s3.set n (.dk (putD y d kvs)))) : Run (sKeySet o i v env st) N R := by
  obtain ⟨d, s1, e1, h⟩ := h.eq
  obtain ⟨x, s2, e2, h⟩ := h.eq
  obtain ⟨y, s3, e3, n, kvs, rfl, h1, h2, h3⟩ := h.eq
  unfold sKeySet
  rw [e1]
  simp only [Re.on]
  rw [e2]
  simp only
  rw [e3]
  simp only [h1]
  rw [if_pos h2]
  exact h3
theorem run_gTp2 {i j : Nat} {x y : Dt} (h : N ((env.set i (some x)).set j (some y)) st) : Run (gTp [i, j] (.tup [x, y]) env st) N R := h
end
structure Jn (b n : Nat) (st : Sto) (kv : List (Dt × Dt)) (s : Sto) : Prop where
  xm : Xm [b] st s
  bq : Bq b s
  nb : b ≠ n
  hn : st.length ≤ n
  at_ : s[n]? = some (.dk kv)
section
variable {b n : Nat} {st s s' : Sto} {kv : List (Dt × Dt)}
theorem Bq.lt (h : Bq b s) : b < s.length := by
  obtain ⟨_, _, _, h⟩ := h
  exact (List.getElem?_eq_some_iff.mp h).1
theorem Jn.lt (J : Jn b n st kv s) : n < s.length := (List.getElem?_eq_some_iff.mp J.at_).1
theorem Jn.app (J : Jn b n st kv s) (g : Sto) : Jn b n st kv (s ++ g) := ⟨J.xm.trans Xm.app, (bq_src b).app J.bq g, J.nb, J.hn, by rw [List.getElem?_append_left J.lt]; exact J.at_⟩
theorem Jn.set (J : Jn b n st kv s) {kv' : List (Dt × Dt)} : Jn b n st kv' (s.set n (.dk kv')) := ⟨J.xm.setN J.hn, (bq_src b).set J.bq (by simp; exact Ne.symm J.nb), J.nb, J.hn, List.getElem?_set_self J.lt⟩
theorem Jn.setN (J : Jn b n st kv s) {m : Nat} {o : Ob} (h1 : n < m) (h2 : b ≠ m) : Jn b n st kv (s.set m o) := ⟨J.xm.setN (Nat.le_trans J.hn (Nat.le_of_lt h1)), (bq_src b).set J.bq (by simp; exact Ne.symm h2), J.nb, J.hn, by rw [List.getElem?_set_ne (by omega)]; exact J.at_⟩
end
end LT
set_option Elab.async false
set_option linter.all false
set_option maxRecDepth 100000
set_option maxHeartbeats 1000000
namespace LT
open PySem PySem.Spec PyProof.Rows L2
section
variable {prog : Program} {w : World} {A : Around} {E : Value → Shared → Prop} {s : Shared}
end
section
variable {X : Cx} {pins : List (Addr × Obj)} {σ : L2.St} {H : Hp} {s : Shared}
end
section
variable {X : Cx} {e1 e2 : Expr} {ta tb : TE} {pos : Pos}
end
section
variable {X : Cx} {pins : List (Addr × Obj)} {σ : L2.St} {H : Hp} {s : Shared}
end
section
variable {prog : Program} {w : World} {A : Around} {E : Value → Shared → Prop} {s : Shared}
end
end LT
set_option Elab.async false
set_option linter.all false
set_option maxRecDepth 100000
set_option maxHeartbeats 1000000
namespace LT
open PySem PySem.Spec PyProof.Rows L2
def mDD (m1 m2 : ME) : ME := fun env st => (m1 env st).bind fun x st1 => match x with
  | .dv a => if a.length ≤ 1000 then (m2 env st1).bind fun y st2 => (match y with
    | .dv b => if b.length ≤ 1000 then .ok (.dv (b.foldl (fun acc q => putD q.1 q.2 acc) (mergeD a))) st2 else .stuck
    | _ => .stuck) else .stuck
  | _ => .stuck
section
variable {X : Cx} {T : Tb} {W : WX} {e1 e2 : Expr} {m1 m2 : ME} {pos : Pos}
end
end LT
set_option Elab.async false
set_option linter.all false
set_option maxRecDepth 100000
set_option maxHeartbeats 1000000
namespace LT
open PySem PySem.Spec PyProof.Rows L2
def keysAre : List (Dt × Dt) → List (List Nat) → Bool
  | [], [] => true
  | (.str k, _) :: r, s :: ss => decide (k = s) && keysAre r ss
  | _, _ => false
section
variable {K : PySem.W.Frag} {T : Tb}
end
section
variable {X : Cx} {W : WX} {C f : Addr} {k n : Nat} {fd : FuncData} {ps ks : List Str} {sp : Sp} {e : Expr} {te : TE} {x : Str} {p pos kpos : Pos}
end
noncomputable def mMakeK (c n : Nat) (ks : List (List Nat)) (F : MF) (me : ME) : ME := fun env st => (me env st).bind fun x st1 => match x with
  | .dv kvs => if keysAre kvs ks = true ∧ kvs.length + 1 = n ∧ kvs.length ≤ 1000 then pt (newF c F) (kvs.map (·.2)) st1 else .stuck
  | _ => .stuck
structure MakeKOk (P : Program) (w : World) (K : PySem.W.Frag) (mg : Str → Option Value) (base : Heap) (B : Tz) (x : Str) (c k n : Nat) (F : MF) (ks : List Str) : Prop where
  ex : ∃ f fd ps, Mk K (B.cls c) f ∧ mg x = some (.ref (B.cls c)) ∧ KBn K fd ps 1 ks (fun us ws => us ++ ws) (fun vs zs => vs ++ zs) ∧ FnOk P w K mg base (L2.CX P w) k f fd ps (spF K B n F)
section
variable {X : Cx} {T : Tb} {W : WX} {c k n : Nat} {F : MF} {ks : List Str} {e : Expr} {me : ME} {x : Str} {p pos kpos : Pos}
end
section
variable {prog : Program} {w : World} {A : Around} {E : Value → Shared → Prop}
end
structure FnKw (P : Program) (w : World) (K : PySem.W.Frag) (mg : Str → Option Value) (base : Heap) (k : Nat) (f : Addr) (ks : List Str) (sp : Sp) : Prop where
  run : ∀ (A : Around) (outer : List Env) (s : Shared) (H : Hp) (u : Value) (ws : List Value) (v : V) (zs : List V) (Q : VK) (E : XK), Room k A → Env0 P w K mg base A outer s H → RelV v u → Vals zs ws → zs.length = ks.length →
    (∀ d, H d = none → sp [v, .ref d] (upd H d (.dK ((ks.map Sum.inr).zip zs))) Q E) → codeAny (model P w) A (.call (.ref f) ⟨[u], ks.zip ws⟩) (CR (L2.CX P w) outer P w H s Q E) s
section
variable {P : Program} {w : World} {K : PySem.W.Frag} {mg : Str → Option Value} {base : Heap} {B : Tz}
end
end LT
set_option Elab.async false
set_option linter.all false
set_option maxRecDepth 100000
set_option maxHeartbeats 1000000
namespace LT
open PySem PySem.Spec PyProof.Rows L2
section
variable {X : Cx} {W : WX} {C f : Addr} {k : Nat} {ks : List Str} {sp : Sp} {o : Expr} {kws : List Keyword} {ta : TE} {t : TA} {m : Str} {apos pos : Pos}
end
section
variable {X : Cx} {T : Tb} {W : WX} {e : Expr} {kws : List Keyword} {me : ME} {ms : MA} {nm : Option Str} {kpos : Pos}
end
def mMethK (c mk : Nat) (ks : List (List Nat)) (F : MF) (mo : ME) (ms : MA) : ME := fun env st => (mo env st).bind fun x st1 => match objD x st1 with
  | some (c', fs) => if c' = c ∧ fs.lookup mk = none then (ms env st1).bind fun ds st2 => if ds.length = ks.length then F [x, .dv ((ks.map Dt.str).zip ds)] st2 else .stuck else .stuck
  | none => .stuck
structure MethKOk (P : Program) (w : World) (K : PySem.W.Frag) (mg : Str → Option Value) (base : Heap) (B : Tz) (m : Str) (c mk k : Nat) (F : MF) (ks : List Str) : Prop where
  nm : B.fld mk = m
  ex : ∃ f, Cls K (B.cls c) ∧ Meth K (B.cls c) m f ∧ FnKw P w K mg base k f ks (spF K B 2 F)
section
variable {X : Cx} {T : Tb} {W : WX} {c mk k : Nat} {F : MF} {ks : List Str} {o : Expr} {kws : List Keyword} {mo : ME} {ms : MA} {m : Str} {apos pos : Pos}
end
end LT
set_option Elab.async false
set_option linter.all false
set_option maxRecDepth 100000
set_option maxHeartbeats 1000000
namespace LT
open PySem PySem.Spec PyProof.Rows L2
theorem FnKw.up {P : Program} {w : World} {K : PySem.W.Frag} {mg : Str → Option Value} {base : Heap} {f : Addr} {j k : Nat} {ks : List Str} {sp : Sp} (G : FnKw P w K mg base j f ks sp) (h : j ≤ k) : FnKw P w K mg base k f ks sp :=
  ⟨fun A outer s H u ws v zs Q E hr e0 rv rz hl q => G.run A outer s H u ws v zs Q E (hr.mono h) e0 rv rz hl q⟩
def mProp (c : Nat) (F : MF) (me : ME) : ME := fun env st => (me env st).bind fun x st1 => match objD x st1 with
  | some (c', _) => if c' = c then (match F [x] st1 with
    | .ok d st2 => .ok d st2
    | _ => .stuck) else .stuck
  | none => .stuck
structure PropOk (P : Program) (w : World) (K : PySem.W.Frag) (mg : Str → Option Value) (base : Heap) (B : Tz) (fn : Str) (c k : Nat) (F : MF) : Prop where
  ex : ∃ p g fd ps, Cls K (B.cls c) ∧ PropOf K (B.cls c) fn p g ∧ Binds K fd ps [] ∧ FnOk P w K mg base (L2.CX P w) k g fd ps (spF K B 1 F)
section
variable {X : Cx} {T : Tb} {W : WX} {c k : Nat} {F : MF} {e : Expr} {me : ME} {fn : Str} {pos : Pos}
end
end LT
set_option Elab.async false
set_option linter.all false
set_option maxRecDepth 100000
set_option maxHeartbeats 1000000
namespace LT
open PySem PySem.Spec PyProof.Rows L2
section
variable {X : Cx} {T : Tb} {W : WX} {c mk k n : Nat} {F : MF} {ks : List Str} {cs : List (List Nat)} {e o : Expr} {kws : List Keyword} {me mo : ME} {ms : MA} {x m : Str} {p pos apos kpos : Pos}
end
end LT
set_option Elab.async false
set_option linter.all false
set_option maxRecDepth 100000
namespace LT
open PySem PySem.Spec PyProof.Rows L2
section
variable {K : PySem.W.Frag} {T : Tb}
end
end LT
set_option Elab.async false
set_option linter.all false
set_option maxRecDepth 100000
set_option maxHeartbeats 1000000
namespace LT
open PySem PySem.Spec PyProof.Rows L2
inductive Pl where
  | p (i : Nat) | d (i : Nat) | k (i : Nat)
def Pl.get {α : Type} (us its ws : List α) : Pl → Option α
  | .p i => us[i]?
  | .d i => its[i]?
  | .k i => ws[i]?
def Pl.up : Pl → Pl
  | .p i => .p (i + 1)
  | .d i => .d i
  | .k i => .k i
def place {α : Type} (plan : List Pl) (us its ws : List α) : List α := plan.filterMap (Pl.get us its ws)
section
variable {K : PySem.W.Frag} {T : Tb} {H : Hp} {f : List Addr}
end
section
variable {X : Cx} {W : WX} {C f : Addr} {k n : Nat} {fd : FuncData} {ps ks : List Str} {sp : Sp} {e : Expr} {es : List Expr} {kws : List Keyword} {t tk2 : TA} {x : Str} {pp pos : Pos} {g : List Value → List Value → List Value} {gV : List V → List V → List V}
end
noncomputable def mMakeN (c n np nk : Nat) (plan : List Pl) (F : MF) (ms mk : MA) (dv : List Dt) : ME := fun env st => (ms env st).bind fun ds st1 => (mk env st1).bind fun es st2 => if ds.length = np ∧ es.length = nk ∧ (place plan ds dv es).length + 1 = n then pt (newF c F) (place plan ds dv es) st2 else .stuck
structure MakeNOk (P : Program) (w : World) (K : PySem.W.Frag) (mg : Str → Option Value) (base : Heap) (B : Tz) (x : Str) (c k n np : Nat) (plan : List Pl) (F : MF) (ks : List Str) (dv : List Dt) : Prop where
  ex : ∃ f fd ps its dvs, Mk K (B.cls c) f ∧ mg x = some (.ref (B.cls c)) ∧ KBn K fd ps (np + 1) ks (fun us ws => place (.p 0 :: plan.map Pl.up) us its ws) (fun vs zs => place (.p 0 :: plan.map Pl.up) vs dvs zs) ∧ (∀ rs H f, RVs K ⟨B, rs⟩ H f dv dvs) ∧ FnOk P w K mg base (L2.CX P w) k f fd ps (spF K B n F)
section
variable {X : Cx} {T : Tb} {W : WX} {c k n np nk : Nat} {plan : List Pl} {F : MF} {ks : List Str} {e : Expr} {es : List Expr} {kws : List Keyword} {ms mk : MA} {x : Str} {p pos : Pos} {dv : List Dt}
end
section
variable {env : Lo} {st : Sto} {P : Dt → Sto → Prop}
theorem giv_makeN {c n np nk : Nat} {plan : List Pl} {F : MF} {ms mk : MA} {dv : List Dt} (h : Giv (ms env st) fun ds s1 => Giv (mk env s1) fun es s2 => (ds.length = np ∧ es.length = nk ∧ (place plan ds dv es).length + 1 = n) ∧ Giv (pt (newF c F) (place plan ds dv es) s2) P) : Giv (mMakeN c n np nk plan F ms mk dv env st) P :=
  giv_bind (h.mono fun ds s1 q => giv_bind (q.mono fun es s2 z => by rw [if_pos z.1]; exact z.2))
end
end LT
set_option Elab.async false
set_option linter.all false
set_option maxRecDepth 100000
set_option maxHeartbeats 1000000
namespace LT
open PySem PySem.Spec PyProof.Rows L2
section
variable {env : Lo} {st : Sto} {P : Dt → Sto → Prop} {E : PX} {N : Lo → Sto → Prop} {R : Dt → Sto → Prop}
theorem giv_dd {m1 m2 : ME} (h : Giv (m1 env st) fun x s1 => ∃ a, x = .dv a ∧ a.length ≤ 1000 ∧ Giv (m2 env s1) fun y s2 => ∃ b, y = .dv b ∧ b.length ≤ 1000 ∧ P (.dv (b.foldl (fun acc q => putD q.1 q.2 acc) (mergeD a))) s2) : Giv (mDD m1 m2 env st) P :=
  giv_bind (h.mono fun x s1 q => by
    obtain ⟨a, rfl, ha, q⟩ := q
    simp only
    rw [if_pos ha]
    refine giv_bind (q.mono fun y s2 z => ?_)
    obtain ⟨b, rfl, hb, z⟩ := z
    simp only
    rw [if_pos hb]
    exact z)
theorem giv_makeK {c n : Nat} {ks : List (List Nat)} {F : MF} {me : ME} (h : Giv (me env st) fun x s1 => ∃ kvs, x = .dv kvs ∧ (keysAre kvs ks = true ∧ kvs.length + 1 = n ∧ kvs.length ≤ 1000) ∧ Giv (pt (newF c F) (kvs.map (·.2)) s1) P) : Giv (mMakeK c n ks F me env st) P :=
  giv_bind (h.mono fun x s1 q => by
    obtain ⟨kvs, rfl, h1, q⟩ := q
    simp only
    rw [if_pos h1]
    exact q)
theorem giv_methK {c mk : Nat} {ks : List (List Nat)} {F : MF} {mo : ME} {ms : MA} (h : Giv (mo env st) fun x s => MethG c mk x s (Giv (ms env s) fun ds s2 => ds.length = ks.length ∧ Giv (F [x, .dv ((ks.map Dt.str).zip ds)] s2) P)) : Giv (mMethK c mk ks F mo ms env st) P :=
  giv_bind (h.mono fun x s q => by
    obtain ⟨fs, h1, h2, q⟩ := q
    simp only [h1, h2, and_self, if_true]
    refine giv_bind (q.mono fun ds s2 z => ?_)
    rw [if_pos z.1]
    exact z.2)
theorem giv_prop {c : Nat} {F : MF} {me : ME} (h : Giv (me env st) fun x s => ∃ fs, objD x s = some (c, fs) ∧ Giv (F [x] s) P) : Giv (mProp c F me env st) P :=
  giv_bind (h.mono fun x s q => by
    obtain ⟨fs, h1, q⟩ := q
    obtain ⟨d, s2, e, k⟩ := q.eq
    simp only [h1]
    rw [if_pos trivial, e]
    exact k)
theorem tr_add {r : Rs} {d : Dt} (hd : clD st.length d = true) (h : Run r (fun _ _ => False) (fun d' s => d' = d ∧ ∃ g, s = st ++ g)) : trR st (outF r) = .ok d st := by
  cases r <;> first | exact h.elim | skip
  obtain ⟨rfl, g, rfl⟩ := h
  have S : Src [] (fun _ => True) := ⟨fun _ _ i hi => (List.not_mem_nil hi).elim, fun _ _ i hi => (List.not_mem_nil hi).elim, fun _ _ _ _ => trivial⟩
  obtain ⟨e, D⟩ := trR_src S (st := st) (st2 := st ++ g) trivial Xm.app trivial hd
  refine e.trans ?_
  simp
end
end LT
set_option Elab.async false
set_option linter.all false
set_option maxRecDepth 100000
set_option maxHeartbeats 1000000
namespace LI
open PySem PySem.Spec PyProof.Rows L2 LT
@[irreducible] def Giv {α : Type} (r : Re α) (P : α → Sto → Prop) : Prop := LT.Giv r P
@[irreducible] def Run (r : Rs) (N : Lo → Sto → Prop) (R : Dt → Sto → Prop) : Prop := LT.Run r N R
theorem gdef {α : Type} (r : Re α) (P : α → Sto → Prop) : Giv r P = LT.Giv r P := by unfold Giv; rfl
theorem rdef (r : Rs) (N : Lo → Sto → Prop) (R : Dt → Sto → Prop) : Run r N R = LT.Run r N R := by unfold Run; rfl
theorem Giv.eq {α : Type} {r : Re α} {P : α → Sto → Prop} (h : Giv r P) : ∃ a s, r = .ok a s ∧ P a s := by rw [gdef] at h; exact LT.Giv.eq h
theorem Giv.mono {α : Type} {r : Re α} {P Q : α → Sto → Prop} (h : Giv r P) (k : ∀ a s, P a s → Q a s) : Giv r Q := by rw [gdef] at h ⊢; exact LT.Giv.mono h k
theorem Run.mono {r : Rs} {N N' : Lo → Sto → Prop} {R R' : Dt → Sto → Prop} (h : Run r N R) (hn : ∀ e s, N e s → N' e s) (hr : ∀ d s, R d s → R' d s) : Run r N' R' := by rw [rdef] at h ⊢; exact LT.Run.mono h hn hr
theorem giv {α : Type} {r : Re α} {a : α} {s : Sto} {P : α → Sto → Prop} (h : r = .ok a s) (k : P a s) : Giv r P := by rw [gdef]; exact LT.giv h k
section
variable {α β : Type} {env : Lo} {st s1 : Sto} {N : Lo → Sto → Prop} {R : Dt → Sto → Prop} {P : Dt → Sto → Prop} {PL : List Dt → Sto → Prop} {PB : Bool → Sto → Prop}
theorem giv_bind {r : Re α} {f : α → Sto → Re β} {P : β → Sto → Prop} (h : Giv r fun a s => Giv (f a s) P) : Giv (r.bind f) P := by
  simp only [gdef, rdef] at *
  exact LT.giv_bind h
theorem run_nx (h : N env st) : Run (sNx env st) N R := by
  simp only [gdef, rdef] at *
  exact LT.run_nx h
theorem run_seq {a b : MS} (h : Run (a env st) (fun e s => Run (b e s) N R) R) : Run (sSeq a b env st) N R := by
  simp only [gdef, rdef] at *
  exact LT.run_seq h
theorem run_set {i : Nat} {e : ME} (h : Giv (e env st) fun d s => N (env.set i (some d)) s) : Run (sSet i e env st) N R := by
  simp only [gdef, rdef] at *
  exact LT.run_set h
theorem run_expr {e : ME} (h : Giv (e env st) fun _ s => N env s) : Run (sExpr e env st) N R := by
  simp only [gdef, rdef] at *
  exact LT.run_expr h
theorem run_ret {e : ME} (h : Giv (e env st) R) : Run (sRet e env st) N R := by
  simp only [gdef, rdef] at *
  exact LT.run_ret h
theorem run_retN (h : R .non st) : Run (sRetN env st) N R := by
  simp only [gdef, rdef] at *
  exact LT.run_retN h
theorem run_if {t : MT} {a b : MS} (h : Giv (t env st) fun x s => if x = true then Run (a env s) N R else Run (b env s) N R) : Run (sIf t a b env st) N R := by
  simp only [gdef, rdef] at *
  exact LT.run_if h
theorem run_ifT {t : MT} {a b : MS} {s : Sto} (h : t env st = .ok true s) (k : Run (a env s) N R) : Run (sIf t a b env st) N R := by
  simp only [gdef, rdef] at *
  exact LT.run_ifT h k
theorem run_ifF {t : MT} {a b : MS} {s : Sto} (h : t env st = .ok false s) (k : Run (b env s) N R) : Run (sIf t a b env st) N R := by
  simp only [gdef, rdef] at *
  exact LT.run_ifF h k
theorem run_par {i j : Nat} {a : MA} {x y : Dt} {s : Sto} (h : a env st = .ok [x, y] s) (k : N ((env.set i (some x)).set j (some y)) s) : Run (sPar i j a env st) N R := by
  simp only [gdef, rdef] at *
  exact LT.run_par h k
theorem run_asg {e : ME} {g : MG} (h : Giv (e env st) fun d s => Run (g d env s) N R) : Run (sAsg e g env st) N R := by
  simp only [gdef, rdef] at *
  exact LT.run_asg h
theorem run_for {m : MW} {g : MG} {body : MS} (h : Giv (m env st) fun w s => Run (forL w g body w.fuel 0 env s) N R) : Run (sFor m g body env st) N R := by
  simp only [gdef, rdef] at *
  exact LT.run_for h
theorem run_forT {g : MG} {body : MS} (xs : List Dt) (J : Nat → Lo → Sto → Prop) (h0 : J 0 env st)
    (hgo : ∀ i e s (hi : i < xs.length), J i e s → ∃ e1 s1, g xs[i] e s = .nx e1 s1 ∧ Run (body e1 s1) (J (i + 1)) R) (fin : ∀ e s, J xs.length e s → N e s) : Run (forL (wTup xs) g body (xs.length + 1) 0 env st) N R := by
  simp only [gdef, rdef] at *
  exact LT.run_forT xs J h0 hgo fin
theorem run_forR {g : MG} {body : MS} {lo : Int} (n : Nat) (J : Nat → Lo → Sto → Prop) (h0 : J 0 env st)
    (hgo : ∀ i e s, i < n → J i e s → ∃ e1 s1, g (.int (lo + i)) e s = .nx e1 s1 ∧ Run (body e1 s1) (J (i + 1)) R) (fin : ∀ e s, J n e s → N e s) : Run (forL (wRng lo n) g body (n + 1) 0 env st) N R := by
  simp only [gdef, rdef] at *
  exact LT.run_forR n J h0 hgo fin
theorem run_while {t : MT} {body : MS} {fuel : Nat} (h : Run (whileL t body fuel env st) N R) : Run (sWhile fuel t body env st) N R := by
  simp only [gdef, rdef] at *
  exact LT.run_while h
theorem giv_out {r : Rs} (h : Run r (fun _ s => P .non s) P) : Giv (outF r) P := by
  simp only [gdef, rdef] at *
  exact LT.giv_out h
theorem giv_call {n : Nat} {F : MF} {a : MA} {dv : List Dt} (h : Giv (a env st) fun ds s => ds.length + dv.length = n ∧ Giv (F (ds ++ dv) s) P) : Giv (mCall n F a dv env st) P := by
  simp only [gdef, rdef] at *
  exact LT.giv_call h
theorem giv_callD {n : Nat} {F : MF} {a : MA} {dv ds : List Dt} {s : Sto} (h : a env st = .ok ds s) (hl : ds.length + dv.length = n) (k : Giv (F (ds ++ dv) s) P) : Giv (mCall n F a dv env st) P := by
  simp only [gdef, rdef] at *
  exact LT.giv_callD h hl k
theorem giv_cons {a : ME} {r : MA} (h : Giv (a env st) fun x s => Giv (r env s) fun xs s2 => PL (x :: xs) s2) : Giv (mCons a r env st) PL := by
  simp only [gdef, rdef] at *
  exact LT.giv_cons h
theorem giv_nil (h : PL [] st) : Giv (mNil env st) PL := by
  simp only [gdef, rdef] at *
  exact LT.giv_nil h
theorem giv_cb {g : List Dt → Sto → Re Dt} {a : MA} (h : Giv (a env st) fun xs s => Giv (g xs s) P) : Giv (mCB g a env st) P := by
  simp only [gdef, rdef] at *
  exact LT.giv_cb h
theorem giv_bin {g : Dt → Dt → Sto → Re Dt} {a b : ME} (h : Giv (a env st) fun x s => Giv (b env s) fun y s2 => Giv (g x y s2) P) : Giv (mBin g a b env st) P := by
  simp only [gdef, rdef] at *
  exact LT.giv_bin h
theorem giv_b {a : ME} (h : Giv (a env st) fun d s => ∃ b, d = .bl b ∧ PB b s) : Giv (mB a env st) PB := by
  simp only [gdef, rdef] at *
  exact LT.giv_b h
theorem giv_ifE {t : MT} {a b : ME} (h : Giv (t env st) fun x s => if x = true then Giv (a env s) P else Giv (b env s) P) : Giv (mIf t a b env st) P := by
  simp only [gdef, rdef] at *
  exact LT.giv_ifE h
theorem giv_tup {a : MA} (h : Giv (a env st) fun xs s => xs.length ≤ lim ∧ P (.tup xs) s) : Giv (mTup a env st) P := by
  simp only [gdef, rdef] at *
  exact LT.giv_tup h
theorem giv_lstV {a : MA} (h : Giv (a env st) fun xs s => xs.length ≤ lim ∧ P (.li xs) s) : Giv (mLstV a env st) P := by
  simp only [gdef, rdef] at *
  exact LT.giv_lstV h
theorem giv_or {a b : MT} (h : Giv (a env st) fun x s => if x = true then PB true s else Giv (b env s) PB) : Giv (mOr a b env st) PB := by
  simp only [gdef, rdef] at *
  exact LT.giv_or h
theorem giv_and {a b : MT} (h : Giv (a env st) fun x s => if x = true then Giv (b env s) PB else PB false s) : Giv (mAnd a b env st) PB := by
  simp only [gdef, rdef] at *
  exact LT.giv_and h
theorem giv_not {a : MT} (h : Giv (a env st) fun x s => PB (!x) s) : Giv (mNot a env st) PB := by
  simp only [gdef, rdef] at *
  exact LT.giv_not h
theorem giv_rng {a : MA} {PW : Wk → Sto → Prop} (h : Giv (a env st) fun xs s => ∃ n : Int, xs = [.int n] ∧ -1000000 ≤ n ∧ n ≤ 1000000 ∧ PW (wRng 0 n.toNat) s) : Giv (mRng a env st) PW := by
  simp only [gdef, rdef] at *
  exact LT.giv_rng h
theorem giv_it {a : ME} {PW : Wk → Sto → Prop} (h : Giv (a env st) fun d s => Giv (itD d s) PW) : Giv (mIt a env st) PW := by
  simp only [gdef, rdef] at *
  exact LT.giv_it h
theorem giv_lcV {m : MW} {g : MG} {tt : MT} {te : ME} {vs : List Nat} (h : Giv (m env st) fun w s => Giv (lcV w g tt te (wipeE env vs) w.fuel 0 [] s) P) : Giv (mLcV m g tt te vs env st) P := by
  simp only [gdef, rdef] at *
  exact LT.giv_lcV h
theorem giv_sl {g : Dt → Option Int → Option Int → Sto → Re Dt} {a : ME} {lo hi : MO} (h : Giv (a env st) fun x s => Giv (lo env s) fun l s2 => Giv (hi env s2) fun u s3 => Giv (g x l u s3) P) : Giv (mSl g a lo hi env st) P := by
  simp only [gdef, rdef] at *
  exact LT.giv_sl h
theorem giv_part {a : ME} {PO : Option Int → Sto → Prop} (h : Giv (a env st) fun d s => ∃ i, d = .int i ∧ PO (some i) s) : Giv (mPart a env st) PO := by
  simp only [gdef, rdef] at *
  exact LT.giv_part h
theorem giv_noPart {PO : Option Int → Sto → Prop} (h : PO none st) : Giv (mNoPart env st) PO := by
  simp only [gdef, rdef] at *
  exact LT.giv_noPart h
theorem giv_var {i : Nat} {d : Dt} (h : env[i]? = some (some d)) (k : P d st) : Giv (mVar i env st) P := by
  simp only [gdef, rdef] at *
  exact LT.giv_var h k
theorem giv_varG {i : Nat} (h : VarG i env st P) : Giv (mVar i env st) P := by
  simp only [gdef, rdef] at *
  exact LT.giv_varG h
theorem giv_c {d : Dt} (k : P d st) : Giv (mC d env st) P := by
  simp only [gdef, rdef] at *
  exact LT.giv_c k
theorem giv_addI {i j : Int} (k : P (.int (i + j)) st) : Giv (addD (.int i) (.int j) st) P := by
  simp only [gdef, rdef] at *
  exact LT.giv_addI k
theorem giv_subI {i j : Int} (k : P (.int (i - j)) st) : Giv (subD (.int i) (.int j) st) P := by
  simp only [gdef, rdef] at *
  exact LT.giv_subI k
theorem giv_eqI {i j : Int} (k : P (.bl (decide (i = j))) st) : Giv (eqD (.int i) (.int j) st) P := by
  simp only [gdef, rdef] at *
  exact LT.giv_eqI k
theorem giv_neI {i j : Int} (k : P (.bl (!decide (i = j))) st) : Giv (neD (.int i) (.int j) st) P := by
  simp only [gdef, rdef] at *
  exact LT.giv_neI k
theorem giv_eqS {i j : List Nat} (k : P (.bl (decide (i = j))) st) : Giv (eqD (.str i) (.str j) st) P := by
  simp only [gdef, rdef] at *
  exact LT.giv_eqS k
theorem giv_neS {i j : List Nat} (k : P (.bl (!decide (i = j))) st) : Giv (neD (.str i) (.str j) st) P := by
  simp only [gdef, rdef] at *
  exact LT.giv_neS k
theorem giv_addS {a b : List Nat} (hl : a.length + b.length ≤ lim) (k : P (.str (a ++ b)) st) : Giv (addD (.str a) (.str b) st) P := by
  simp only [gdef, rdef] at *
  exact LT.giv_addS hl k
theorem giv_addL {a b : List Dt} (hl : a.length + b.length ≤ lim) (k : P (.li (a ++ b)) st) : Giv (addD (.li a) (.li b) st) P := by
  simp only [gdef, rdef] at *
  exact LT.giv_addL hl k
theorem giv_addT {a b : List Dt} (hl : a.length + b.length ≤ lim) (k : P (.tup (a ++ b)) st) : Giv (addD (.tup a) (.tup b) st) P := by
  simp only [gdef, rdef] at *
  exact LT.giv_addT hl k
theorem giv_lenL {xs : List Dt} (k : P (.int xs.length) st) : Giv (lenD [.li xs] st) P := by
  simp only [gdef, rdef] at *
  exact LT.giv_lenL k
theorem giv_lenT {xs : List Dt} (k : P (.int xs.length) st) : Giv (lenD [.tup xs] st) P := by
  simp only [gdef, rdef] at *
  exact LT.giv_lenT k
theorem giv_slL {xs : List Dt} {lo hi : Option Int} (k : P (.li (cutL xs lo hi)) st) : Giv (slD (.li xs) lo hi st) P := by
  simp only [gdef, rdef] at *
  exact LT.giv_slL k
theorem giv_slT {xs : List Dt} {lo hi : Option Int} (k : P (.tup (cutL xs lo hi)) st) : Giv (slD (.tup xs) lo hi st) P := by
  simp only [gdef, rdef] at *
  exact LT.giv_slT k
theorem giv_tuL {xs : List Dt} (k : P (.tup xs) st) : Giv (tupleD [.li xs] st) P := by
  simp only [gdef, rdef] at *
  exact LT.giv_tuL k
theorem giv_tuT {xs : List Dt} (k : P (.tup xs) st) : Giv (tupleD [.tup xs] st) P := by
  simp only [gdef, rdef] at *
  exact LT.giv_tuT k
theorem giv_liL {xs : List Dt} (k : P (.li xs) st) : Giv (listV [.li xs] st) P := by
  simp only [gdef, rdef] at *
  exact LT.giv_liL k
theorem giv_liT {xs : List Dt} (k : P (.li xs) st) : Giv (listV [.tup xs] st) P := by
  simp only [gdef, rdef] at *
  exact LT.giv_liT k
theorem giv_itT {xs : List Dt} {PW : Wk → Sto → Prop} (k : PW (wTup xs) st) : Giv (itD (.tup xs) st) PW := by
  simp only [gdef, rdef] at *
  exact LT.giv_itT k
theorem giv_itL {xs : List Dt} {PW : Wk → Sto → Prop} (k : PW (wTup xs) st) : Giv (itD (.li xs) st) PW := by
  simp only [gdef, rdef] at *
  exact LT.giv_itL k
theorem giv_andE {a b : ME} (h : Giv (a env st) fun x s => ∃ c, x = .bl c ∧ if c = true then Giv (b env s) P else P (.bl false) s) : Giv (mAndV a b env st) P := by
  simp only [gdef, rdef] at *
  exact LT.giv_andE h
theorem giv_orE {a b : ME} (h : Giv (a env st) fun x s => ∃ c, x = .bl c ∧ if c = true then P (.bl true) s else Giv (b env s) P) : Giv (mOrV a b env st) P := by
  simp only [gdef, rdef] at *
  exact LT.giv_orE h
theorem giv_notE {a : ME} (h : Giv (a env st) fun x s => ∃ c, x = .bl c ∧ P (.bl (!c)) s) : Giv (mNotV a env st) P := by
  simp only [gdef, rdef] at *
  exact LT.giv_notE h
theorem giv_makeV {c n : Nat} {F : MF} {a : MA} {dv : List Dt} (h : Giv (a env st) fun ds s => ds.length + dv.length + 1 = n ∧ Giv (pt (newF c F) (ds ++ dv) s) P) : Giv (mMakeV c n F a dv env st) P := by
  simp only [gdef, rdef] at *
  exact LT.giv_makeV h
theorem giv_fldO {cs : List Nat} {k : Nat} {a : ME} (h : Giv (a env st) fun x s => FldG cs k x fun d => P d s) : Giv (mFld cs k a env st) P := by
  simp only [gdef, rdef] at *
  exact LT.giv_fldO h
theorem giv_isI {q : Tk → Option Bool} {a : ME} (h : Giv (a env st) fun x s => IsG x s q fun b => P (.bl b) s) : Giv (mIsI q a env st) P := by
  simp only [gdef, rdef] at *
  exact LT.giv_isI h
theorem giv_star {a : ME} {r : MA} (h : Giv (a env st) fun x s => StarG x s fun ys => Giv (r env s) fun xs s2 => PL (ys ++ xs) s2) : Giv (mStar a r env st) PL := by
  simp only [gdef, rdef] at *
  exact LT.giv_star h
theorem giv_slS {xs : List Nat} {lo hi : Option Int} (hl : xs.length ≤ lim) (k : P (.str (cutL xs lo hi)) st) : Giv (slD (.str xs) lo hi st) P := by
  simp only [gdef, rdef] at *
  exact LT.giv_slS hl k
theorem giv_lenS {xs : List Nat} (hl : xs.length ≤ lim) (k : P (.int xs.length) st) : Giv (lenD [.str xs] st) P := by
  simp only [gdef, rdef] at *
  exact LT.giv_lenS hl k
theorem giv_inT {s : List Nat} {ys : List (List Nat)} (k : P (.bl (decide (s ∈ ys))) st) : Giv (inD (.str s) (.tup (ys.map Dt.str)) st) P := by
  simp only [gdef, rdef] at *
  exact LT.giv_inT k
theorem giv_inL {s : List Nat} {ys : List (List Nat)} (k : P (.bl (decide (s ∈ ys))) st) : Giv (inD (.str s) (.li (ys.map Dt.str)) st) P := by
  simp only [gdef, rdef] at *
  exact LT.giv_inL k
theorem giv_joinT {a : List Nat} {ss : List (List Nat)} (hl : (ss.map List.length).sum + ss.length * a.length ≤ 16777216) (k : P (.str (TL.joinL a ss)) st) : Giv (joinD (.str a) [.tup (ss.map Dt.str)] st) P := by
  simp only [gdef, rdef] at *
  exact LT.giv_joinT hl k
theorem giv_joinL {a : List Nat} {ss : List (List Nat)} (hl : (ss.map List.length).sum + ss.length * a.length ≤ 16777216) (k : P (.str (TL.joinL a ss)) st) : Giv (joinD (.str a) [.li (ss.map Dt.str)] st) P := by
  simp only [gdef, rdef] at *
  exact LT.giv_joinL hl k
theorem giv_fmt {a : ME} (h : Giv (a env st) fun x s => ∃ z, x = .str z ∧ z.length ≤ lim ∧ P (.str z) s) : Giv (mFmt a env st) P := by
  simp only [gdef, rdef] at *
  exact LT.giv_fmt h
theorem giv_joined {as : List ME} (h : Giv (mFs as [] env st) fun z s => P (.str z) s) : Giv (mJoined as env st) P := by
  simp only [gdef, rdef] at *
  exact LT.giv_joined h
theorem giv_fsN {acc : List Nat} {PF : List Nat → Sto → Prop} (h : PF acc st) : Giv (mFs [] acc env st) PF := by
  simp only [gdef, rdef] at *
  exact LT.giv_fsN h
theorem giv_fsC {a : ME} {as : List ME} {acc : List Nat} {PF : List Nat → Sto → Prop} (h : Giv (a env st) fun x s => ∃ z, x = .str z ∧ acc.length + z.length ≤ lim ∧ Giv (mFs as (acc ++ z) env s) PF) : Giv (mFs (a :: as) acc env st) PF := by
  simp only [gdef, rdef] at *
  exact LT.giv_fsC h
theorem giv_ixT {xs : List Dt} {i : Nat} {d : Dt} (h : xs[i]? = some d) (k : P d st) : Giv (ixD (.tup xs) (.int (i : Int)) st) P := by
  simp only [gdef, rdef] at *
  exact LT.giv_ixT h k
theorem giv_ixL {xs : List Dt} {i : Nat} {d : Dt} (h : xs[i]? = some d) (k : P d st) : Giv (ixD (.li xs) (.int (i : Int)) st) P := by
  simp only [gdef, rdef] at *
  exact LT.giv_ixL h k
theorem giv_ix0 {x : Dt} {xs : List Dt} (k : P x st) : Giv (ixD (.tup (x :: xs)) (.int 0) st) P := by
  simp only [gdef, rdef] at *
  exact LT.giv_ix0 k
theorem giv_ix1 {x y : Dt} {xs : List Dt} (k : P y st) : Giv (ixD (.tup (x :: y :: xs)) (.int 1) st) P := by
  simp only [gdef, rdef] at *
  exact LT.giv_ix1 k
theorem giv_ix2 {x y z : Dt} {xs : List Dt} (k : P z st) : Giv (ixD (.tup (x :: y :: z :: xs)) (.int 2) st) P := by
  simp only [gdef, rdef] at *
  exact LT.giv_ix2 k
theorem giv_ix0L {x : Dt} {xs : List Dt} (k : P x st) : Giv (ixD (.li (x :: xs)) (.int 0) st) P := by
  simp only [gdef, rdef] at *
  exact LT.giv_ix0L k
theorem giv_ix1L {x y : Dt} {xs : List Dt} (k : P y st) : Giv (ixD (.li (x :: y :: xs)) (.int 1) st) P := by
  simp only [gdef, rdef] at *
  exact LT.giv_ix1L k
theorem giv_ix2L {x y z : Dt} {xs : List Dt} (k : P z st) : Giv (ixD (.li (x :: y :: z :: xs)) (.int 2) st) P := by
  simp only [gdef, rdef] at *
  exact LT.giv_ix2L k
theorem giv_meth {c mk n : Nat} {F : MF} {o : ME} {a : MA} {dv : List Dt} (h : Giv (o env st) fun x s => MethG c mk x s (Giv (a env s) fun ds s2 => ds.length + dv.length + 1 = n ∧ Giv (F (x :: (ds ++ dv)) s2) P)) : Giv (mMeth c mk n F o a dv env st) P := by
  simp only [gdef, rdef] at *
  exact LT.giv_meth h
theorem giv_chain {g h : Dt → Dt → Sto → Re Dt} {a b c : ME} (q : Giv (a env st) fun x s1 => Giv (b env s1) fun y s2 => Giv (g x y s2) fun z s3 => ∃ c0, z = .bl c0 ∧ if c0 = true then Giv (c env s3) fun w s4 => Giv (h y w s4) P else P (.bl false) s3) : Giv (mChain g h a b c env st) P := by
  simp only [gdef, rdef] at *
  exact LT.giv_chain q
theorem giv_leI {i j : Int} (k : P (.bl (decide (i ≤ j))) st) : Giv (leD (.int i) (.int j) st) P := by
  simp only [gdef, rdef] at *
  exact LT.giv_leI k
theorem giv_ltI {i j : Int} (k : P (.bl (decide (i < j))) st) : Giv (ltD (.int i) (.int j) st) P := by
  simp only [gdef, rdef] at *
  exact LT.giv_ltI k
theorem giv_geI {i j : Int} (k : P (.bl (decide (j ≤ i))) st) : Giv (geD (.int i) (.int j) st) P := by
  simp only [gdef, rdef] at *
  exact LT.giv_geI k
theorem giv_gtI {i j : Int} (k : P (.bl (decide (j < i))) st) : Giv (gtD (.int i) (.int j) st) P := by
  simp only [gdef, rdef] at *
  exact LT.giv_gtI k
theorem giv_strO {c : Nat} {F : MF} {x : Dt} {z : List Nat} {s : Sto} (hc : clsD x st = some c) (h : F [x] st = .ok (.str z) s) (k : P (.str z) s) : Giv (strOwnD c F [x] st) P := by
  simp only [gdef, rdef] at *
  exact LT.giv_strO hc h k
theorem run_aug {i : Nat} {g : Dt → Dt → Sto → Re Dt} {a : ME} {d : Dt} (hd : env[i]? = some (some d)) (h : Giv (a env st) fun y s => Giv (g d y s) fun z s2 => N (env.set i (some z)) s2) : Run (sAug i g a env st) N R := by
  simp only [gdef, rdef] at *
  exact LT.run_aug hd h
theorem giv_bm {chk : Dt → Sto → Bool} {g : Dt → List Dt → Sto → Re Dt} {o : ME} {a : MA} (h : Giv (o env st) fun x s => chk x s = true ∧ Giv (a env s) fun ds s2 => Giv (g x ds s2) P) : Giv (mBM chk g o a env st) P := by
  simp only [gdef, rdef] at *
  exact LT.giv_bm h
theorem giv_bm0 {chk : Dt → Sto → Bool} {g : Dt → List Dt → Sto → Re Dt} {o : ME} (h : Giv (o env st) fun x s => chk x s = true ∧ Giv (g x [] s) P) : Giv (mBM0 chk g o env st) P := by
  simp only [gdef, rdef] at *
  exact LT.giv_bm0 h
theorem giv_lcGo {w : Wk} {g : MG} {te : ME} {env : Lo} {s : Sto} (n : Nat) (hf : w.fuel = n + 1) (hn : n < lim) (I : Sto → Prop) (Q : Dt → Prop) (hstop : ∀ s, w.turn n s = .stop) (h0 : I s)
    (hgo : ∀ i s, i < n → I s → ∃ x, w.turn i s = .item x ∧ ∃ env1, g x env s = .nx env1 s ∧ Giv (te env1 s) fun d s1 => Q d ∧ I s1)
    (k : ∀ ys s', I s' → ys.length = n → (∀ d ∈ ys, Q d) → P (.li ys) s') : Giv (lcV w g mYes te env w.fuel 0 [] s) P := by
  simp only [gdef, rdef] at *
  exact LT.giv_lcGo n hf hn I Q hstop h0 hgo k
theorem giv_lcMap {g : MG} {te : ME} {env : Lo} {s : Sto} (xs : List Dt) (h : Dt → Dt) (hn : xs.length < lim) (hgo : ∀ x ∈ xs, ∃ env1, g x env s = .nx env1 s ∧ te env1 s = .ok (h x) s) (k : P (.li (xs.map h)) s) :
    Giv (lcV (wTup xs) g mYes te env (wTup xs).fuel 0 [] s) P := by
  simp only [gdef, rdef] at *
  exact LT.giv_lcMap xs h hn hgo k
theorem giv_lcMapT {α : Type} {g : MG} {te : ME} {env : Lo} {s : Sto} (xs : List α) (f h : α → Dt) (hn : xs.length < lim) (hgo : ∀ a ∈ xs, ∃ env1, g (f a) env s = .nx env1 s ∧ te env1 s = .ok (h a) s) (k : P (.li (xs.map h)) s) :
    Giv (lcV (wTup (xs.map f)) g mYes te env (wTup (xs.map f)).fuel 0 [] s) P := by
  simp only [gdef, rdef] at *
  exact LT.giv_lcMapT xs f h hn hgo k
theorem giv_all {ys : List Dt} {bs : List Bool} (h : boolsD ys = some bs) (k : P (.bl (bs.all id)) st) : Giv (allD [.li ys] st) P := by
  simp only [gdef, rdef] at *
  exact LT.giv_all h k
theorem run_fldSet {cs : List Nat} {k : Nat} {o v : ME} (h : Giv (v env st) fun d s => Giv (o env s) fun x s2 => ∃ i c fs, x = .ref i ∧ s2[i]? = some (.ins c fs) ∧ cs.contains c = true ∧ fs.length < 900 ∧ N env (s2.set i (.ins c (putN k d fs)))) : Run (sFldSet cs k o v env st) N R := by
  simp only [gdef, rdef] at *
  exact LT.run_fldSet h
end
section
variable {P : Dt → Sto → Prop}
theorem giv_lcRef {g : MG} {te : ME} {env : Lo} {s : Sto} {p : Nat} (xs : List Dt) (h : Dt → Dt) (hp : s[p]? = some (.lst xs)) (hn : xs.length < lim) (hgo : ∀ x ∈ xs, ∃ env1, g x env s = .nx env1 s ∧ te env1 s = .ok (h x) s) (k : P (.li (xs.map h)) s) :
    Giv (lcV (wLst p xs.length) g mYes te env (wLst p xs.length).fuel 0 [] s) P := by
  simp only [gdef, rdef] at *
  exact LT.giv_lcRef xs h hp hn hgo k
theorem giv_lcAny {g : MG} {te : ME} {env : Lo} {s : Sto} {d : Dt} (xs : List Dt) (h : Dt → Dt) (hs : seqD d s = some xs) (hn : xs.length < lim) (hgo : ∀ x ∈ xs, ∃ env1, g x env s = .nx env1 s ∧ te env1 s = .ok (h x) s) (k : P (.li (xs.map h)) s) :
    Giv (itD d s) fun w s' => Giv (lcV w g mYes te env w.fuel 0 [] s') P := by
  simp only [gdef, rdef] at *
  exact LT.giv_lcAny xs h hs hn hgo k
end
section
variable {st : Sto} {b : Nat} {c s n : Int} {P : Dt → Sto → Prop} {env : Lo} {N : Lo → Sto → Prop} {R : Dt → Sto → Prop}
theorem run_subL {mo mi : ME} {d o i : Dt} {st3 : Sto} (h1 : mo env st = .ok o st) (h2 : mi env st = .ok i st) (h3 : setL o i d st = some st3) (k : N env st3) : Run (gSubL mo mi d env st) N R := by
  simp only [gdef, rdef] at *
  exact LT.run_subL h1 h2 h3 k
theorem giv_mulI {i j : Int} (h : cMul i j = true) (k : P (.int (i * j)) st) : Giv (mulD (.int i) (.int j) st) P := by
  simp only [gdef, rdef] at *
  exact LT.giv_mulI h k
theorem giv_modI {i j : Int} (h : 0 < j) (k : P (.int (i % j)) st) : Giv (modD (.int i) (.int j) st) P := by
  simp only [gdef, rdef] at *
  exact LT.giv_modI h k
theorem giv_fdivI {i j : Int} (h : 0 < j) (h2 : j < 1073741824) (k : P (.int (i / j)) st) : Giv (fdivD (.int i) (.int j) st) P := by
  simp only [gdef, rdef] at *
  exact LT.giv_fdivI h h2 k
theorem giv_cint {i : Int} (k : P (.int i) st) : Giv (cintD [.int i] st) P := by
  simp only [gdef, rdef] at *
  exact LT.giv_cint k
end
section
variable {P : Dt → Sto → Prop}
theorem giv_lcStr {g : MG} {te : ME} {env : Lo} {s : Sto} (w : List Nat) (h : Dt → Dt) (hn : w.length < lim) (hgo : ∀ c ∈ w, ∃ env1, g (.str [c]) env s = .nx env1 s ∧ te env1 s = .ok (h (.str [c])) s) (k : P (.li (w.map fun c => h (.str [c]))) s) :
    Giv (lcV (wStr w) g mYes te env (wStr w).fuel 0 [] s) P := by
  simp only [gdef, rdef] at *
  exact LT.giv_lcStr w h hn hgo k
theorem giv_itS {w : List Nat} {s : Sto} {PW : Wk → Sto → Prop} (k : PW (wStr w) s) : Giv (itD (.str w) s) PW := by
  simp only [gdef, rdef] at *
  exact LT.giv_itS k
end
section
theorem giv_fldA {cs : List Nat} {k : Nat} {a : ME} {env : Lo} {st : Sto} {P : Dt → Sto → Prop} (h : Giv (a env st) fun x s => FldA cs k x s fun d => P d s) : Giv (mFld cs k a env st) P := by
  simp only [gdef, rdef] at *
  exact LT.giv_fldA h
end
section
variable {env : Lo} {st : Sto} {P : Dt → Sto → Prop} {E : PX}
theorem giv_ixO {c : Nat} {F : MF} {a b : ME} (h : Giv (a env st) fun x s => Giv (b env s) fun y s2 => clsD x s2 = some c ∧ Giv (F [x, y] s2) P) : Giv (mIxO c F a b env st) P := by
  simp only [gdef, rdef] at *
  exact LT.giv_ixO h
end
section
variable {env : Lo} {st : Sto} {P : Dt → Sto → Prop} {E : PX}
theorem giv_split {a S : List Nat} (h1 : S ≠ []) (h2 : S.all (fun c => decide (c < 256)) = true) (h3 : a.length ≤ lim) (k : P (.li ((TL.spl S 0 [] a).map Dt.str)) st) : Giv (splitD (.str a) [.str S] st) P := by
  simp only [gdef, rdef] at *
  exact LT.giv_split h1 h2 h3 k
theorem giv_cm {c n : Nat} {F : MF} {a : MA} (h : Giv (a env st) fun ds s => ds.length + 1 = n ∧ Giv (F (.cl c :: ds) s) P) : Giv (mCM c n F a env st) P := by
  simp only [gdef, rdef] at *
  exact LT.giv_cm h
theorem giv_makeL {i c n : Nat} {F : MF} {a : MA} {dv : List Dt} (hi : env[i]? = some (some (.cl c))) (h : Giv (mMakeV c n F a dv env st) P) : Giv (mMakeL i c n F a dv env st) P := by
  simp only [gdef, rdef] at *
  exact LT.giv_makeL hi h
end
section
theorem giv_rng2 {a : MA} {env : Lo} {st : Sto} {PW : Wk → Sto → Prop} (h : Giv (a env st) fun xs s => ∃ m n : Int, xs = [.int m, .int n] ∧ -1000000 ≤ m ∧ m ≤ 1000000 ∧ -1000000 ≤ n ∧ n ≤ 1000000 ∧ PW (wRng m (n - m).toNat) s) : Giv (mRng2 a env st) PW := by
  simp only [gdef, rdef] at *
  exact LT.giv_rng2 h
end
section
variable {env : Lo} {st : Sto} {N : Lo → Sto → Prop} {R : Dt → Sto → Prop}
theorem run_match {e : ME} {cs : List (List (List Nat) × MS)} (h : Giv (e env st) fun d s => ∃ z, d = .str z ∧ Run (mCases z cs env s) N R) : Run (sMatch e cs env st) N R := by
  simp only [gdef, rdef] at *
  exact LT.run_match h
end
section
theorem run_par3 {i j l : Nat} {a : MA} {env : Lo} {st : Sto} {N : Lo → Sto → Prop} {R : Dt → Sto → Prop} (h : Giv (a env st) fun ds s => ∃ x y z, ds = [x, y, z] ∧ N (((env.set i (some x)).set j (some y)).set l (some z)) s) : Run (sPar3 i j l a env st) N R := by
  simp only [gdef, rdef] at *
  exact LT.run_par3 h
end
section
theorem giv_listS {w : List Nat} {st : Sto} {P : Dt → Sto → Prop} (h : w.length ≤ lim) (k : P (.li (w.map fun c => .str [c])) st) : Giv (listS [.str w] st) P := by
  simp only [gdef, rdef] at *
  exact LT.giv_listS h k
end
section
variable {env : Lo} {st : Sto} {P : Dt → Sto → Prop} {N : Lo → Sto → Prop} {R : Dt → Sto → Prop} {PP : List (Dt × Dt) → Sto → Prop}
theorem giv_pairsN (h : PP [] st) : Giv (mPairs [] env st) PP := by
  simp only [gdef, rdef] at *
  exact LT.giv_pairsN h
theorem giv_pairsC {a b : ME} {r : List (ME × ME)} (h : Giv (a env st) fun x s1 => Giv (b env s1) fun y s2 => Giv (mPairs r env s2) fun ps s3 => PP ((x, y) :: ps) s3) : Giv (mPairs ((a, b) :: r) env st) PP := by
  simp only [gdef, rdef] at *
  exact LT.giv_pairsC h
theorem giv_disp {prs : List (ME × ME)} (h : Giv (mPairs prs env (st ++ [.dk []])) fun ps s => s[st.length]? = some (.dk []) ∧ (ps.all (fun q => isKey q.1) && decide (ps.length ≤ 15)) = true ∧ P (.ref st.length) (s.set st.length (.dk (mergeD ps)))) : Giv (mDisp prs env st) P := by
  simp only [gdef, rdef] at *
  exact LT.giv_disp h
theorem giv_upd {mo me : ME} (h : Giv (mo env st) fun x s1 => ∃ n kv0, x = .ref n ∧ s1[n]? = some (.dk kv0) ∧ Giv (me env s1) fun y s2 => ∃ m kvs more, y = .ref m ∧ s2[n]? = some (.dk kvs) ∧ s2[m]? = some (.dk more) ∧ n < m ∧ kvs.length + more.length < lim ∧ P .non (s2.set n (.dk (more.foldl (fun acc q => putD q.1 q.2 acc) kvs)))) : Giv (mUpd mo me env st) P := by
  simp only [gdef, rdef] at *
  exact LT.giv_upd h
theorem run_keySet {o i v : ME} (h : Giv (v env st) fun d s1 => Giv (o env s1) fun x s2 => Giv (i env s2) fun y s3 => ∃ n kvs, x = .ref n ∧ s3[n]? = some (.dk kvs) ∧ (isKey y && decide (kvs.length < lim)) = true ∧ N env (s3.set n (.dk (putD y d kvs)))) : Run (sKeySet o i v env st) N R := by
  simp only [gdef, rdef] at *
  exact LT.run_keySet h
theorem run_gTp2 {i j : Nat} {x y : Dt} (h : N ((env.set i (some x)).set j (some y)) st) : Run (gTp [i, j] (.tup [x, y]) env st) N R := by
  simp only [gdef, rdef] at *
  exact LT.run_gTp2 h
end
section
variable {env : Lo} {st : Sto} {P : Dt → Sto → Prop}
theorem giv_makeN {c n np nk : Nat} {plan : List Pl} {F : MF} {ms mk : MA} {dv : List Dt} (h : Giv (ms env st) fun ds s1 => Giv (mk env s1) fun es s2 => (ds.length = np ∧ es.length = nk ∧ (place plan ds dv es).length + 1 = n) ∧ Giv (pt (newF c F) (place plan ds dv es) s2) P) : Giv (mMakeN c n np nk plan F ms mk dv env st) P := by
  simp only [gdef, rdef] at *
  exact LT.giv_makeN h
end
section
variable {env : Lo} {st : Sto} {P : Dt → Sto → Prop} {E : PX} {N : Lo → Sto → Prop} {R : Dt → Sto → Prop}
theorem giv_dd {m1 m2 : ME} (h : Giv (m1 env st) fun x s1 => ∃ a, x = .dv a ∧ a.length ≤ 1000 ∧ Giv (m2 env s1) fun y s2 => ∃ b, y = .dv b ∧ b.length ≤ 1000 ∧ P (.dv (b.foldl (fun acc q => putD q.1 q.2 acc) (mergeD a))) s2) : Giv (mDD m1 m2 env st) P := by
  simp only [gdef, rdef] at *
  exact LT.giv_dd h
theorem giv_makeK {c n : Nat} {ks : List (List Nat)} {F : MF} {me : ME} (h : Giv (me env st) fun x s1 => ∃ kvs, x = .dv kvs ∧ (keysAre kvs ks = true ∧ kvs.length + 1 = n ∧ kvs.length ≤ 1000) ∧ Giv (pt (newF c F) (kvs.map (·.2)) s1) P) : Giv (mMakeK c n ks F me env st) P := by
  simp only [gdef, rdef] at *
  exact LT.giv_makeK h
theorem giv_methK {c mk : Nat} {ks : List (List Nat)} {F : MF} {mo : ME} {ms : MA} (h : Giv (mo env st) fun x s => MethG c mk x s (Giv (ms env s) fun ds s2 => ds.length = ks.length ∧ Giv (F [x, .dv ((ks.map Dt.str).zip ds)] s2) P)) : Giv (mMethK c mk ks F mo ms env st) P := by
  simp only [gdef, rdef] at *
  exact LT.giv_methK h
theorem giv_prop {c : Nat} {F : MF} {me : ME} (h : Giv (me env st) fun x s => ∃ fs, objD x s = some (c, fs) ∧ Giv (F [x] s) P) : Giv (mProp c F me env st) P := by
  simp only [gdef, rdef] at *
  exact LT.giv_prop h
end
section
variable {env : Lo} {st : Sto} {N : Lo → Sto → Prop} {R : Dt → Sto → Prop} {P : Dt → Sto → Prop}
theorem run_forL {w : Wk} {g : MG} {body : MS} (n : Nat) (J : Nat → Lo → Sto → Prop) (hstop : ∀ e s, J n e s → w.turn n s = .stop)
    (hgo : ∀ i e s, i < n → J i e s → ∃ d, w.turn i s = .item d ∧ ∃ e1 s1, g d e s = .nx e1 s1 ∧ Run (body e1 s1) (J (i + 1)) R) (fin : ∀ e s, J n e s → N e s) (m i : Nat) (e : Lo) (s : Sto) (h : i + m = n) (hJ : J i e s) : Run (forL w g body (m + 1) i e s) N R := by
  simp only [gdef, rdef] at *
  exact LT.run_forL n J hstop hgo fin m i e s h hJ
theorem run_whileL {t : MT} {body : MS} (J : Nat → Lo → Sto → Prop) (hgo : ∀ m e s, J m e s → Giv (t e s) fun b s1 => if b = true then ∃ m', m' < m ∧ Run (body e s1) (J m') R else N e s1) (fuel m : Nat) (e : Lo) (s : Sto) (h : m < fuel) (hJ : J m e s) : Run (whileL t body fuel e s) N R := by
  simp only [gdef, rdef] at *
  exact LT.run_whileL J hgo fuel m e s h hJ
theorem eqg {α : Type} {r : Re α} {a : α} {s : Sto} (h : Giv r fun d s' => d = a ∧ s' = s) : r = .ok a s := by
  obtain ⟨d, s', e, rfl, rfl⟩ := h.eq
  exact e
theorem run_parI {i j : Nat} {a : MA} (h : Giv (a env st) fun ds s => ∃ x y, ds = [x, y] ∧ N ((env.set i (some x)).set j (some y)) s) : Run (sPar i j a env st) N R := by
  obtain ⟨ds, s, e, x, y, rfl, k⟩ := h.eq
  exact run_par e k
theorem tr_run {M : List Nat} {I : Sto → Prop} (S : Src M I) {r : Rs} {Q : Dt → Prop} (h : I st) (hq : ∀ d, Q d → clD st.length d = true) (k : Run r (fun _ _ => False) (fun d st2 => Q d ∧ Xm M st st2 ∧ I st2)) : ∃ d st', trR st (outF r) = .ok d st' ∧ Q d ∧ Ds M I st st' := by
  simp only [rdef] at k
  exact LT.tr_run S h hq k
theorem tr_add {r : Rs} {d : Dt} (hd : clD st.length d = true) (h : Run r (fun _ _ => False) (fun d' s => d' = d ∧ ∃ g, s = st ++ g)) : trR st (outF r) = .ok d st := by
  simp only [rdef] at h
  exact LT.tr_add hd h
theorem out_of {r : Rs} {d : Dt} {s : Sto} (h : Run r (fun _ s' => d = .non ∧ s' = s) (fun d' s' => d' = d ∧ s' = s)) : outF r = .ok d s := by
  simp only [rdef] at h
  exact LT.out_of h
theorem pu_eq {r : Rs} {d : Dt} (h : Run r (fun _ s => puR st (.ok .non s) = .ok d st) (fun d' s => puR st (.ok d' s) = .ok d st)) : puR st (outF r) = .ok d st := by
  simp only [rdef] at h
  exact LT.pu_eq h
theorem giv_lstI {a : MA} (h : Giv (a env st) fun xs s => xs.length ≤ lim ∧ P (.ref s.length) (s ++ [.lst xs])) : Giv (mLst a env st) P := giv_bind (h.mono fun xs s q => giv (a := .ref s.length) (s := s ++ [.lst xs]) (by rw [if_pos q.1]) q.2)
end

end LI
set_option Elab.async false
set_option linter.all false
set_option maxRecDepth 100000
set_option maxHeartbeats 1000000
namespace LT
open PySem PySem.Spec PyProof.Rows L2
end LT
namespace LI
open PySem PySem.Spec PyProof.Rows L2 LT
section
variable {env : Lo} {st : Sto} {N : Lo → Sto → Prop} {R : Dt → Sto → Prop} {P : Dt → Sto → Prop}
end
end LI
set_option Elab.async false
set_option linter.all false
set_option maxRecDepth 100000
set_option maxHeartbeats 1000000
namespace LT
open PySem PySem.Spec PyProof.Rows L2
section
variable {K : PySem.W.Frag} {T : Tb} {H H' : Hp} {f : List Addr} {st : Sto}
theorem Stay.ext (k : ∀ b o, H b = some o → H' b = some o) : Stay K T f H f H' := by
  refine ⟨⟨fun a xs h => ?_, fun a xs h => ?_, fun a u _ _ h => k a u h, fun _ h => .inl h⟩, fun a u _ _ h => k a u h⟩
  · rcases h with (h | ⟨q, h⟩) | h
    · exact .inl (.inl (k _ _ h))
    · exact .inl (.inr ⟨q, k _ _ h⟩)
    · exact .inr h
  · rcases h with ⟨q, h⟩ | h
    · exact .inl ⟨q, k _ _ h⟩
    · exact .inr h
theorem RH.ext (r : RH K T f H st) (k : ∀ b o, H b = some o → H' b = some o) : RH K T f H' st :=
  ⟨r.len, r.nd, fun i o a hi ha => by
    have q := r.obj i o a hi ha
    obtain ⟨u, hu, _⟩ := q.some
    exact q.keep (List.prefix_refl _) (Stay.ext k) ((k a u hu).trans hu.symm), fun a ha => ⟨(r.rsv a ha).1, by
      obtain ⟨_, u, h⟩ := r.rsv a ha
      exact ⟨u, k a u h⟩⟩⟩
end
section
variable {X : Cx} {T : Tb} {W : WX} {e : Expr} {me : ME} {p apos cpos pos : Pos}
end
section
variable {K : PySem.W.Frag} {T : Tb}
end
end LT
namespace LI
open PySem PySem.Spec PyProof.Rows L2 LT
section
variable {env : Lo} {st : Sto} {P : Dt → Sto → Prop}
end
end LI
set_option Elab.async false
set_option linter.all false
set_option maxRecDepth 100000
set_option maxHeartbeats 1000000
namespace LT
open PySem PySem.Spec PyProof.Rows L2
section
variable {X : Cx} {pins : List (Addr × Obj)} {σ : L2.St} {H : Hp} {s : Shared}
structure TwoF (K : PySem.W.Frag) (x a f g : Str) (fa : Addr) (fd : FuncData) : Prop where
  ex : ∃ (qual : Str) (st : Stmt) (p1 p2 p3 p4 p5 p6 : Pos) (kk : Nat), Fun K x qual st fa fd ∧ defBody st = [.Return (some (.Tuple [.Attribute (.Name a p1) f p2, .Attribute (.Name a p3) g p4] kk p5)) p6] ∧ FnScope [a] [a] (defScope st) ∧ (defScope st).names.lookup a = some .local
  bd : Binds K fd [a] []
  d1 : (a == ("__debug__" : Str)) = false
  d2 : (a == ("__classdict__" : Str)) = false
end

mutual
def pdD : Dt → Option PyData
  | .str s => some (.str ⟨s.toArray⟩)
  | .tup xs => (pdDs xs).map .tuple
  | .int i => some (.int i)
  | .bl b => some (.bool b)
  | _ => none
def pdDs : List Dt → Option (List PyData)
  | [] => some []
  | x :: r => match pdD x, pdDs r with
    | some a, some b => some (a :: b)
    | _, _ => none
end
section
variable {X : Cx} {T : Tb} {pins : List (Addr × Obj)} {σ : L2.St} {H : Hp} {s : Shared} {f : List Addr}
mutual
theorem pd_reads (I : Inv X pins σ H s) : ∀ {d : Dt} {v : V} {p : PyData}, RV X.K T H f d v → pdD d = some p → ∀ (u : Value) (h : Heap), RelV v u → (∀ b o, s.heap.get? b = some o → h.get? b = some o) → Reads h u p []
  | _, _, p, .str x, hp, u, h, ru, kp => by
    obtain ⟨t, rfl⟩ := ru
    have : p = .str x := by
      unfold pdD at hp
      exact (Option.some.inj hp).symm
    subst this
    exact .str x t
  | _, _, p, .int i, hp, u, h, ru, kp => by
    obtain ⟨t, rfl⟩ := ru
    unfold pdD at hp
    cases hp
    exact .int i t
  | _, _, p, .bl b, hp, u, h, ru, kp => by
    cases ru
    unfold pdD at hp
    cases hp
    exact .bool b
  | _, _, p, .tup (ds := ds) hs r, hp, u, h, ru, kp => by
    cases ru
    unfold pdD at hp
    cases hq : pdDs ds with
    | none => rw [hq] at hp; cases hp
    | some ps =>
      rw [hq] at hp
      cases hp
      obtain ⟨its, rel, ⟨o, ho, hc, n, hd⟩, _⟩ := I.tuple hs
      exact .tuple (as := []) (kp _ _ ho) hc hd (pds_reads I r hq its h rel kp)
  | _, _, p, .non, hp, u, h, ru, kp => by simp [pdD] at hp
  | _, _, p, .rl _ _, hp, u, h, ru, kp => by simp [pdD] at hp
  | _, _, p, .li _ _ _, hp, u, h, ru, kp => by simp [pdD] at hp
  | _, _, p, .ob _ _ _, hp, u, h, ru, kp => by simp [pdD] at hp
  | _, _, p, .dv _ _ _, hp, u, h, ru, kp => by simp [pdD] at hp
  | _, _, p, .ref _, hp, u, h, ru, kp => by simp [pdD] at hp
  | _, _, p, .cl _, hp, u, h, ru, kp => by simp [pdD] at hp
  | _, _, p, .dn _ _ _, hp, u, h, ru, kp => by simp [pdD] at hp
  | _, _, p, .er _ _ _ _ _, hp, u, h, ru, kp => by simp [pdD] at hp
  | _, _, p, .er0 _ _, hp, u, h, ru, kp => by simp [pdD] at hp
theorem pds_reads (I : Inv X pins σ H s) : ∀ {ds : List Dt} {vs : List V} {ps : List PyData}, RVs X.K T H f ds vs → pdDs ds = some ps → ∀ (us : List Value) (h : Heap), Vals vs us → (∀ b o, s.heap.get? b = some o → h.get? b = some o) → ReadsAll h us ps []
  | _, _, ps, .nil, hp, us, h, ru, kp => by
    unfold pdDs at hp
    cases hp
    cases ru
    exact .nil
  | _, _, ps, .cons (d := d) (ds := ds) r t, hp, us, h, ru, kp => by
    unfold pdDs at hp
    cases h1 : pdD d with
    | none => rw [h1] at hp; cases hp
    | some a =>
      cases h2 : pdDs ds with
      | none => rw [h1, h2] at hp; cases hp
      | some b =>
        rw [h1, h2] at hp
        cases hp
        cases ru with
        | cons r1 r2 => exact .cons (as := []) (bs := []) (pd_reads I r h1 _ h r1 kp) (pds_reads I t h2 _ h r2 kp)
end
end
end LT
set_option Elab.async false
set_option linter.all false
set_option maxRecDepth 100000
set_option maxHeartbeats 1000000
namespace LT
open PySem PySem.Spec PyProof.Rows L2
section
variable {K : PySem.W.Frag} {T : Tb} {H : Hp} {f : List Addr}
end
section
variable {X : Cx} {T : Tb} {W : WX}
structure KeyOk (K : PySem.W.Frag) (mg : Str → Option Value) (B : Tz) (x : Str) (c i j : Nat) : Prop where
  ex : ∃ (a : Str) (fa : Addr) (fd : FuncData), mg x = some (.ref fa) ∧ TwoF K x a (B.fld i) (B.fld j) fa fd ∧ Cls K (B.cls c) ∧ NoAttr K (B.cls c) (B.fld i) ∧ NoAttr K (B.cls c) (B.fld j)
end
end LT
set_option Elab.async false
set_option linter.all false
set_option maxRecDepth 100000
set_option maxHeartbeats 1000000
namespace LT
open PySem PySem.Spec PyProof.Rows L2
section
variable {X : Cx}
end
end LT
set_option Elab.async false
set_option linter.all false
set_option maxRecDepth 100000
set_option maxHeartbeats 1000000
namespace LT
open PySem PySem.Spec PyProof.Rows L2
section
variable {K : PySem.W.Frag} {T : Tb}
end
end LT
set_option Elab.async false
set_option linter.all false
set_option maxRecDepth 100000
namespace LT
open PySem
section
variable {α : Type} {le : α → α → Bool}
end
end LT
set_option Elab.async false
set_option linter.all false
set_option maxRecDepth 100000
namespace LI
open PySem PySem.Spec PyProof.Rows L2 LT
end LI
set_option Elab.async false
set_option linter.all false
set_option maxRecDepth 100000
set_option maxHeartbeats 1000000
namespace LT
open PySem PySem.Spec PyProof.Rows L2
end LT
set_option Elab.async false
set_option linter.all false
set_option maxRecDepth 100000
set_option maxHeartbeats 1000000
namespace LT
open PySem PySem.Spec PyProof.Rows L2
mutual
def pqD : Dt → Option PyData
  | .str s => some (.str ⟨s.toArray⟩)
  | .tup xs => (pqDs xs).map .tuple
  | .li xs => (pqDs xs).map .list
  | .int i => some (.int i)
  | .bl b => some (.bool b)
  | _ => none
def pqDs : List Dt → Option (List PyData)
  | [] => some []
  | x :: r => match pqD x, pqDs r with
    | some a, some b => some (a :: b)
    | _, _ => none
end
section
variable {X : Cx} {T : Tb} {pins : List (Addr × Obj)} {σ : L2.St} {H : Hp} {s : Shared} {f : List Addr}
mutual
theorem pq_reads (I : Inv X pins σ H s) : ∀ {d : Dt} {v : V} {p : PyData}, RV X.K T H f d v → pqD d = some p → ∀ u : Value, RelV v u → ∃ as, Reads s.heap u p as
  | _, _, p, .str x, hp, u, ru => by
    obtain ⟨t, rfl⟩ := ru
    have : p = .str x := by
      unfold pqD at hp
      exact (Option.some.inj hp).symm
    subst this
    exact ⟨_, .str x t⟩
  | _, _, p, .int i, hp, u, ru => by
    obtain ⟨t, rfl⟩ := ru
    unfold pqD at hp
    cases hp
    exact ⟨_, .int i t⟩
  | _, _, p, .bl b, hp, u, ru => by
    cases ru
    unfold pqD at hp
    cases hp
    exact ⟨_, .bool b⟩
  | _, _, p, .tup (ds := ds) hs r, hp, u, ru => by
    cases ru
    unfold pqD at hp
    cases hq : pqDs ds with
    | none => rw [hq] at hp; cases hp
    | some ps =>
      rw [hq] at hp
      cases hp
      obtain ⟨its, rel, ⟨o, ho, hc, n, hd⟩, _⟩ := I.tuple hs
      obtain ⟨as, ra⟩ := pqs_reads I r hq its rel
      exact ⟨_, .tuple ho hc hd ra⟩
  | _, _, p, .li (ds := ds) hf hs r, hp, u, ru => by
    cases ru
    unfold pqD at hp
    cases hq : pqDs ds with
    | none => rw [hq] at hp; cases hp
    | some ps =>
      rw [hq] at hp
      cases hp
      obtain ⟨its, rel, ⟨o, n, ho, hc, _, hd⟩, _⟩ := I.list (.inl (.inl hs))
      obtain ⟨as, ra⟩ := pqs_reads I r hq its rel
      exact ⟨_, .list ho hc hd ra⟩
  | _, _, p, .non, hp, u, ru => by simp [pqD] at hp
  | _, _, p, .rl _ _, hp, u, ru => by simp [pqD] at hp
  | _, _, p, .ob _ _ _, hp, u, ru => by simp [pqD] at hp
  | _, _, p, .dv _ _ _, hp, u, ru => by simp [pqD] at hp
  | _, _, p, .ref _, hp, u, ru => by simp [pqD] at hp
  | _, _, p, .cl _, hp, u, ru => by simp [pqD] at hp
  | _, _, p, .dn _ _ _, hp, u, ru => by simp [pqD] at hp
  | _, _, p, .er _ _ _ _ _, hp, u, ru => by simp [pqD] at hp
  | _, _, p, .er0 _ _, hp, u, ru => by simp [pqD] at hp
theorem pqs_reads (I : Inv X pins σ H s) : ∀ {ds : List Dt} {vs : List V} {ps : List PyData}, RVs X.K T H f ds vs → pqDs ds = some ps → ∀ us : List Value, Vals vs us → ∃ as, ReadsAll s.heap us ps as
  | _, _, ps, .nil, hp, us, ru => by
    unfold pqDs at hp
    cases hp
    cases ru
    exact ⟨_, .nil⟩
  | _, _, ps, .cons (d := d) (ds := ds) r t, hp, us, ru => by
    unfold pqDs at hp
    cases h1 : pqD d with
    | none => rw [h1] at hp; cases hp
    | some a =>
      cases h2 : pqDs ds with
      | none => rw [h1, h2] at hp; cases hp
      | some b =>
        rw [h1, h2] at hp
        cases hp
        cases ru with
        | cons r1 r2 =>
          obtain ⟨as, ra⟩ := pq_reads I r h1 _ r1
          obtain ⟨bs, rb⟩ := pqs_reads I t h2 _ r2
          exact ⟨_, .cons ra rb⟩
end
end
end LT
set_option Elab.async false
set_option linter.all false
set_option maxRecDepth 100000
set_option maxHeartbeats 1000000
namespace LT
open PySem PySem.Spec PyProof.Rows L2
section
variable {X : Cx} {T : Tb}
end
end LT
set_option Elab.async false
set_option linter.all false
set_option maxRecDepth 100000
set_option maxHeartbeats 1000000
namespace LT
open PySem PySem.Spec PyProof.Rows L2
section
variable {K : PySem.W.Frag}
end
end LT
set_option Elab.async false
set_option linter.all false
set_option maxRecDepth 100000
set_option maxHeartbeats 1000000
namespace LT
open PySem PySem.Spec PyProof.Rows L2
section
variable {K : PySem.W.Frag} {T : Tb}
end
section
variable {X : Cx} {T : Tb} {W : WX} {e o : Expr} {me mo : ME} {pos p' : Pos}
end
end LT
set_option Elab.async false
set_option linter.all false
set_option maxRecDepth 100000
set_option maxHeartbeats 1000000
namespace LT
open PySem PySem.Spec PyProof.Rows L2
section
variable {X : Cx} {T : Tb} {W : WX} {C f : Addr} {k n c : Nat} {fd : FuncData} {ps : List Str} {sp : Sp} {ds : List Value} {dvs : List V} {dv : List Dt} {F : MF} {x : Str} {pos pp : Pos}
end
end LT
set_option Elab.async false
set_option linter.all false
set_option maxRecDepth 100000
set_option maxHeartbeats 1000000
namespace LT
open PySem PySem.Spec PyProof.Rows L2
end LT
set_option Elab.async false
set_option linter.all false
set_option maxRecDepth 100000
set_option maxHeartbeats 1000000
namespace LT
open PySem PySem.Spec PyProof.Rows L2
section
variable {X : Cx} {W : WX} {C f g p : Addr} {mc : Value} {k n : Nat} {fd : FuncData} {ps ks : List Str} {sp : Sp} {e o : Expr} {es : List Expr} {kws : List Keyword} {ta : TE} {t tk2 : TA} {m x : Str} {apos pp pos : Pos} {gf : List Value → List Value → List Value} {gV : List V → List V → List V}
end
structure DefNOk (P : Program) (w : World) (K : PySem.W.Frag) (mg : Str → Option Value) (base : Heap) (B : Tz) (x : Str) (k n : Nat) (plan : List Pl) (F : MF) (ks : List Str) : Prop where
  ex : ∃ f fd ps, mg x = some (.ref f) ∧ PySem.W.keepIn K (.ref f) = true ∧ KBn K fd ps 0 ks (fun us ws => place plan us [] ws) (fun vs zs => place plan vs [] zs) ∧ FnOk P w K mg base (L2.CX P w) k f fd ps (spF K B n F)
structure MethNOk (P : Program) (w : World) (K : PySem.W.Frag) (mg : Str → Option Value) (base : Heap) (B : Tz) (m : Str) (c mk k n : Nat) (plan : List Pl) (F : MF) (ks : List Str) : Prop where
  nm : B.fld mk = m
  ex : ∃ f fd ps, Cls K (B.cls c) ∧ Meth K (B.cls c) m f ∧ KBn K fd ps 1 ks (fun us ws => place plan us [] ws) (fun vs zs => place plan vs [] zs) ∧ FnOk P w K mg base (L2.CX P w) k f fd ps (spF K B n F)
structure CmNOk (P : Program) (w : World) (K : PySem.W.Frag) (mg : Str → Option Value) (base : Heap) (B : Tz) (x m : Str) (c k n : Nat) (plan : List Pl) (F : MF) (ks : List Str) : Prop where
  ex : ∃ p g mc fd ps, mg x = some (.ref (B.cls c)) ∧ ClX.CRead K (B.cls c) mc ∧ ClX.CMet K (B.cls c) mc m p g ∧ KBn K fd ps 1 ks (fun us ws => place plan us [] ws) (fun vs zs => place plan vs [] zs) ∧ FnOk P w K mg base (L2.CX P w) k g fd ps (spF K B n F)
section
variable {X : Cx} {T : Tb} {W : WX} {c mk k n nk : Nat} {plan : List Pl} {F : MF} {ks : List Str} {o : Expr} {kws : List Keyword} {mo : ME} {ms : MA} {m x : Str} {apos pp pos : Pos}
end
end LT
namespace LI
open PySem PySem.Spec PyProof.Rows L2 LT
section
variable {env : Lo} {st : Sto} {P : Dt → Sto → Prop}
end
end LI
set_option Elab.async false
set_option linter.all false
set_option maxRecDepth 100000
set_option maxHeartbeats 1000000
namespace LT
open PySem PySem.Spec PyProof.Rows L2
end LT
set_option Elab.async false
set_option linter.all false
set_option maxRecDepth 100000
set_option maxHeartbeats 1000000
namespace LT
open PySem PySem.Spec PyProof.Rows L2
structure DefG (P : Program) (w : World) (K : PySem.W.Frag) (mg : Str → Option Value) (base : Heap) (B : Tz) (x : Str) (k n : Nat) (F : MF) (dv : List Dt) : Prop where
  ex : ∃ f fd ps dfs dvs, mg x = some (.ref f) ∧ PySem.W.keepIn K (.ref f) = true ∧ Binds K fd ps dfs ∧ Vals dvs dfs ∧ (∀ rs H f, RVs K ⟨B, rs⟩ H f dv dvs) ∧ FnG P w K mg base k f fd ps (spF K B n F)
section
variable {X : Cx} {T : Tb} {W : WX} {k n : Nat} {f : Addr} {fd : FuncData} {ps : List Str} {F : MF} {dv : List Dt} {x : Str} {e : Expr} {es : List Expr} {ms : MA} {pos p : Pos}
end
end LT
set_option Elab.async false
set_option linter.all false
set_option maxRecDepth 100000
set_option maxHeartbeats 1000000
namespace L2
open PySem PySem.Spec PyProof.Rows
abbrev Cl3 := Value × Nat × (Addr → Value → Option Addr → TS)
inductive HdsAs (X : Cx) : List ExceptHandler → List Cl3 → Prop
  | nil : HdsAs X [] []
  | cons {x n : Str} {c : Value} {i : Nat} {ts : Addr → Value → Option Addr → TS} {b₀ : Stmt} {suite : List Stmt} {np pos' : Pos} {hds : List ExceptHandler} {l : List Cl3} (hc : Names X x c) (hi : X.N[i]? = some n) (hln : X.env.kindOf n = some .local)
      (hsu : ∀ (a : Addr) (oe : Obj) (cls : Value) (d : Option Addr) (pn : List (Addr × Obj)), Zc cls d oe → (∃ vs, oe.data = .fields vs) → PSs (X.suite a ((a, oe) :: pn)) (b₀ :: suite) (ts a cls d)) (r : HdsAs X hds l) :
      HdsAs X (.ExceptHandler (some (.Name x np)) (some n) (b₀ :: suite) pos' :: hds) ((c, i, ts) :: l)
section
variable {X : Cx} {body : List Stmt} {h₀ : ExceptHandler} {hds : List ExceptHandler} {l : List Cl3} {pos : Pos} {tb : WX → TS} {Wout : WX}
end
end L2
set_option Elab.async false
set_option linter.all false
set_option maxRecDepth 100000
set_option maxHeartbeats 1000000
namespace LT
open PySem PySem.Spec PyProof.Rows L2
abbrev HM := Nat → List (Nat × Dt) → Option (Option (List (Nat × Dt)))
def setE (env : Lo) (l : List (Nat × Dt)) : Lo := l.foldl (fun e p => e.set p.1 (some p.2)) env
def tSuM (K : PySem.W.Frag) (T : Tb) (h : HM) (i : Nat) (a : Addr) (cls : Value) (d : Option Addr) : TS := fun E σ H => ∃ c fs f env st l, cls = .ref (T.cls c) ∧ ((fs = [] ∧ d = none) ∨ ∃ dd vs, d = some dd ∧ H dd = some (.xd vs) ∧ FR K T H f fs vs) ∧ h c fs = some (some l) ∧
  σ[i]? = some (some (.ref a)) ∧ σ.length = env.length ∧ REn K T H f env σ ∧ RH K T f H st ∧ ∀ f2 H2 σ2, f <+: f2 → Stay K T f H f2 H2 → RH K T f2 H2 st → REn K T H2 f2 (setE env l) σ2 → E.nx σ2 H2
inductive ClOk (X : Cx) (T : Tb) : List (Nat × HM) → List Cl3 → Prop
  | nil : ClOk X T [] []
  | cons {i : Nat} {h : HM} {cv : Value} {cl : List (Nat × HM)} {l3 : List Cl3} (hx : ∀ c fs, h c fs = some none → PySem.W.exmOne X.K (.ref (T.cls c)) cv = some false) (hy : ∀ c fs l, h c fs = some (some l) → PySem.W.exmOne X.K (.ref (T.cls c)) cv = some true) (r : ClOk X T cl l3) :
      ClOk X T ((i, h) :: cl) ((cv, i, tSuM X.K T h i) :: l3)
section
variable {X : Cx} {T : Tb} {W : WX}
end
end LT
set_option Elab.async false
set_option linter.all false
set_option maxRecDepth 100000
set_option maxHeartbeats 1000000
namespace LT
open PySem PySem.Spec PyProof.Rows L2
section
variable {X : Cx} {T : Tb} {W : WX}
def hT (m : Nat → Option Bool) (k j1 j : Nat) (z : List Nat) : HM := fun c fs => match m c with
  | none => none
  | some false => some none
  | some true => match fs.lookup k with
    | some d => some (some [(j1, .bl true), (j, .li [.str z, d])])
    | none => none
end
end LT
set_option Elab.async false
set_option linter.all false
set_option maxRecDepth 100000
set_option maxHeartbeats 1000000
namespace LT
open PySem PySem.Spec PyProof.Rows L2
structure SuTOk (K : PySem.W.Frag) (mg : Str → Option Value) (T : Tz) (x xA xB xC fn : Str) (k : Nat) (m : Nat → Option Bool) : Prop where
  nm : T.fld k = fn
  ex : ∃ Cx CA CB CC, mg x = some (.ref Cx) ∧ mg xA = some (.ref CA) ∧ mg xB = some (.ref CB) ∧ mg xC = some (.ref CC) ∧ (∀ c, m c = some false → PySem.W.exmOne K (.ref (T.cls c)) (.ref Cx) = some false) ∧
    ∀ c, m c = some true → PySem.W.exmOne K (.ref (T.cls c)) (.ref Cx) = some true ∧ ExcC K (T.cls c) ∧ XfC K (T.cls c) ∧ PySem.W.findIn K (.ref (T.cls c)) fn = some none ∧ PySem.W.kitOne K (.ref (T.cls c)) (.ref CA) = some true ∧ PySem.W.kitAny K (.ref (T.cls c)) [.ref CB, .ref CC] = some false
structure SuLOk (K : PySem.W.Frag) (mg : Str → Option Value) (T : Tz) (x xA fn : Str) (k : Nat) (m : Nat → Option Bool) : Prop where
  nm : T.fld k = fn
  ex : ∃ Cx CA, mg x = some (.ref Cx) ∧ mg xA = some (.ref CA) ∧ (∀ c, m c = some false → PySem.W.exmOne K (.ref (T.cls c)) (.ref Cx) = some false) ∧
    ∀ c, m c = some true → PySem.W.exmOne K (.ref (T.cls c)) (.ref Cx) = some true ∧ ExcC K (T.cls c) ∧ XfC K (T.cls c) ∧ PySem.W.findIn K (.ref (T.cls c)) fn = some none ∧ PySem.W.kitOne K (.ref (T.cls c)) (.ref CA) = some true
section
variable {X : Cx} {T : Tb} {W : WX}
end
end LT
set_option Elab.async false
set_option linter.all false
set_option maxRecDepth 100000
namespace LT
open PySem PySem.Spec PyProof.Rows L2
section
variable {X : Cx} {pins : List (Addr × Obj)} {σ : L2.St} {H : Hp} {s : Shared} {a b : Addr} {xs : List NE} {k : NK} {v y : V} {u r : Value} {A : Around} {E : Value → Shared → Prop} {hs : NK → Int} {o : Option V}
end
section
variable {X : Cx} {hs : NK → Int}
variable {o i e value : Expr} {pos pos' : Pos} {td ty tv : TE}
end
end LT
set_option Elab.async false
set_option linter.all false
set_option maxRecDepth 100000
set_option pp.maxSteps 200
namespace LT
open PySem PySem.Spec PyProof.Rows L2
section
variable {X : Cx} {hs : NK → Int} {pos : Pos} {k v : Expr} {tk tv : TE}
end
section
variable {X : Cx} {hs : NK → Int}
end
end LT
set_option Elab.async false
set_option linter.all false
set_option maxRecDepth 100000
namespace LT
open PySem PySem.Spec PyProof.Rows L2
section
variable {P : Program} {w : World} {K : PySem.W.Frag} {tg : Expr} {d : Addr} {o : Obj} {es : Array DictEntry} {ep : Nat} {hs : NK → Int} {xs : List NE}
end
section
variable {X : Cx} {tg e : Expr} {td : TE} {apos cpos : Pos} {hs : NK → Int}
end
end LT
set_option Elab.async false
set_option linter.all false
set_option maxRecDepth 100000
namespace LT
open PySem PySem.Spec PyProof.Rows L2
section
variable {X : Cx} {hs : NK → Int}
end
end LT
set_option Elab.async false
set_option linter.all false
set_option maxRecDepth 100000
set_option maxHeartbeats 1000000
namespace LT
open PySem PySem.Spec PyProof.Rows L2
section
variable {K : PySem.W.Frag} {T : Tb} {H : Hp} {f : List Addr} {st : Sto}
end
section
variable {X : Cx} {T : Tb} {W : WX} {o e i k v : Expr} {mo me mi ma mb : ME} {pos apos cpos : Pos} {K : PySem.W.Frag}
end
end LT
set_option Elab.async false
set_option linter.all false
set_option maxRecDepth 100000
set_option maxHeartbeats 1000000
namespace LT
open PySem PySem.Spec PyProof.Rows L2
section
variable {X : Cx} {T : Tb} {W : WX} {kx elt tg iter : Expr} {ifs : List Expr} {scope : Scope} {own : List (Str × Nat)} {pos : Pos} {mw : MW} {g : MG} {tg' : TG} {tt : MT} {tk te : ME}
end
theorem NR.get {K : PySem.W.Frag} {T : Tb} {H : Hp} {f : List Addr} : ∀ {kvs : List (Dt × Dt)} {xs : List NE}, NR K T H f kvs xs → ∀ {i : Nat} {p : Dt × Dt}, kvs[i]? = some p → ∃ e, xs[i]? = some e ∧ RV K T H f p.1 (.ref e.2.1) ∧ RV K T H f p.2 e.2.2
  | _, _, .nil, i, p, h => by cases i <;> cases h
  | _, _, .cons hk _ h t, 0, p, e => by cases e; exact ⟨_, rfl, hk, h⟩
  | _, _, .cons _ _ _ t, i + 1, p, e => NR.get t (i := i) (by simpa using e)
section
variable {X : Cx} {T : Tb} {W : WX} {e tg : Expr} {me : ME} {pos apos cpos : Pos} {K : PySem.W.Frag}
end
end LT
set_option Elab.async false
set_option linter.all false
set_option maxRecDepth 100000
set_option maxHeartbeats 1000000
namespace LT
open PySem PySem.Spec PyProof.Rows L2
section
variable {K : PySem.W.Frag} {T : Tb}
end
section
variable {X : Cx} {T : Tb} {W : WX} {o e : Expr} {mo me : ME} {apos cpos : Pos}
end
end LT
set_option Elab.async false
set_option linter.all false
set_option maxRecDepth 100000
set_option maxHeartbeats 1000000
namespace LT
open PySem PySem.Spec PyProof.Rows L2
section
variable {X : Cx} {T : Tb} {W : WX} {pos : Pos}
end
end LT
set_option Elab.async false
set_option linter.all false
set_option maxRecDepth 100000
set_option maxHeartbeats 1000000
namespace LI
open PySem PySem.Spec PyProof.Rows L2 LT
structure Enc (α : Type) where
  enc : α → Dt
  q : α → NK
  hk : ∀ a, keyN (enc a) = some (q a)
  inj : ∀ a b, q a = q b → a = b
section
variable {α β : Type} [DecidableEq α] (E : Enc α) (k : β → α) (v : β → Dt)
end
section
variable {env : Lo} {st s : Sto} {P : Dt → Sto → Prop} {N : Lo → Sto → Prop} {R : Dt → Sto → Prop} {PW : Wk → Sto → Prop} {x y : Dt} {kvs : List (Dt × Dt)} {q : NK} {n : Nat}
end
end LI
set_option Elab.async false
set_option linter.all false
set_option maxRecDepth 100000
namespace LT
open PySem PySem.Spec PyProof.Rows L2
def hP (m : Nat → Option Bool) (k j : Nat) (z : List Nat) : HM := fun c fs => match m c with
  | none => none
  | some false => some none
  | some true => match fs.lookup k with
    | some d => some (some [(j, .tup [.str z, d])])
    | none => none
section
variable {X : Cx} {T : Tb} {W : WX}
end
end LT
set_option Elab.async false
set_option linter.all false
set_option maxRecDepth 100000
namespace LT
open PySem PySem.Spec PyProof.Rows L2
section
variable {X : Cx} {hs : NK → Int}
end
section
variable {X : Cx} {T : Tb} {W : WX} {kx elt tg iter : Expr} {ifs : List Expr} {scope : Scope} {own : List (Str × Nat)} {pos : Pos} {mw : MW} {g : MG} {tg' : TG} {tt : MT} {tk te : ME}
end
end LT
set_option Elab.async false
set_option linter.all false
set_option maxRecDepth 100000
set_option maxHeartbeats 1000000
namespace L2
open PySem PySem.Spec PyProof.Rows
section
variable {X : Cx}
end
end L2
namespace LT
open PySem PySem.Spec PyProof.Rows L2
structure FvOk (mg : Str → Option Value) (B : Tz) (x : Str) (c : Nat) : Prop where
  at_ : mg x = some (.ref (B.cls c))
section
variable {X : Cx} {T : Tb} {W : WX}
end
end LT
set_option Elab.async false
set_option linter.all false
set_option maxRecDepth 100000
set_option maxHeartbeats 2000000
namespace ZL
open PySem PySem.W PySem.Calls PyProof.Rows PyProof.V PySem.Spec
section
variable {prog : Program} {w : World} {A : Around} {E : Value → Shared → Prop} {s : Shared} {zz ti tu j1 j2 tt : Addr} {g1 g2 : List Addr} {m1 m2 i : Nat} {X1 X2 : Nat → Value → Prop} {S1 S2 : Nat → Heap → Prop} {fl : Bool} {ot : Obj}
end
section
variable {prog : Program} {w : World} {A : Around} {E : Value → Shared → Prop} {s : Shared} {zz ti tu j1 j2 ss : Addr} {g1 g2 : List Addr} {m i : Nat} {X1 X2 : Nat → Value → Prop} {S1 S2 : Nat → Heap → Prop}
structure ZSt (zz ti tu j1 j2 ss : Addr) (S1 S2 : Nat → Heap → Prop) (i : Nat) (h : Heap) : Prop where
  z : (∃ a1 a2, IsZip h zz ti tu .none ∧ IsTupOf2 h tu a1 a2) ∨ ∃ tt fl ot, IsZipHeld h zz ti tu tt fl ∧ h.get? tt = some ot ∧ tt ≠ ss ∧ tt ≠ zz ∧ tt ≠ j1 ∧ tt ≠ j2
  t : IsTupOf2 h ti (.ref j1) (.ref j2)
  a : S1 i h
  b : S2 i h
end
section
variable {prog : Program} {w : World} {A : Around} {s : Shared} {R : Result → Shared → Prop} {zz ti tu j1 j2 ss : Addr} {g1 g2 : List Addr} {m i : Nat} {X1 X2 : Nat → Value → Prop} {S1 S2 : Nat → Heap → Prop}
structure Tups (X1 X2 : Nat → Value → Prop) (lo : Addr) (h : Heap) (us : List Addr) : Prop where
  up : us.Pairwise (· < ·)
  lo : ∀ a ∈ us, lo < a ∧ a < h.objs.size
  at_ : ∀ (j : Nat) (a : Addr), us[j]? = some a → ∃ v1 v2, X1 j v1 ∧ X2 j v2 ∧ IsTupOf2 h a v1 v2
structure Cells (zz ti tu j1 j2 ss lo : Addr) (g1 g2 : List Addr) : Prop where
  z : zz ≤ lo
  u : tu ≤ lo
  a : j1 ≤ lo
  b : j2 ≤ lo
  l : ss ≤ lo
  sz : ss ≠ zz
  su : ss ≠ tu
  st : ss ≠ ti
  sa : ss ≠ j1
  sb : ss ≠ j2
  s1 : ss ∉ g1
  s2 : ss ∉ g2
end
section
variable {prog : Program} {w : World} {A : Around} {s : Shared} {E : Value → Shared → Prop} {zz ti tu j1 j2 ss : Addr} {g1 g2 : List Addr} {m i : Nat} {X1 X2 : Nat → Value → Prop} {S1 S2 : Nat → Heap → Prop}
end
section
variable {prog : Program} {w : World} {A : Around} {s : Shared} {E : Value → Shared → Prop} {zz ti tu j1 j2 : Addr} {g1 g2 : List Addr} {m : Nat} {X1 X2 : Nat → Value → Prop} {S1 S2 : Nat → Heap → Prop}
end
end ZL
set_option Elab.async false
set_option linter.all false
set_option maxRecDepth 100000
set_option maxHeartbeats 2000000
namespace ZL
open PySem PySem.Spec PyProof.Rows L2 LiI
section
variable {X : Cx}
end
end ZL
set_option Elab.async false
set_option linter.all false
set_option maxRecDepth 100000
set_option maxHeartbeats 1000000
namespace LT
open PySem PySem.Spec PyProof.Rows L2
section
variable {K : PySem.W.Frag} {T : Tb} {H : Hp} {f : List Addr}
end
section
variable {X : Cx} {T : Tb} {W : WX} {e e2 : Expr} {ms : MA} {p p2 pos pos2 : Pos}
end
section
variable {K : PySem.W.Frag} {T : Tb}
end
end LT
namespace LT
open PySem PySem.Spec PyProof.Rows L2
end LT
namespace LI
open PySem PySem.Spec PyProof.Rows L2 LT
section
variable {env : Lo} {st : Sto} {P : Dt → Sto → Prop}
end
end LI
set_option Elab.async false
set_option linter.all false
set_option maxRecDepth 100000
namespace LT
open PySem PySem.Spec PyProof.Rows L2
abbrev CsG := List (List (List Nat) × Option MT × MS)
section
variable {X : Cx} {T : Tb} {W : WX}
inductive CasesG (X : Cx) (T : Tb) (W : WX) : List MatchCase → CsG → Prop
  | nil : CasesG X T W [] []
  | cons {pat : Pattern} {body : List Stmt} {ws : List (List Nat)} {b : MS} {r : List MatchCase} {cs : CsG} (P : PatOk pat ws) (hb : ISs X T W body b) (t : CasesG X T W r cs) : CasesG X T W (⟨pat, none, body⟩ :: r) ((ws, none, b) :: cs)
  | cong {pat : Pattern} {g : Expr} {tg : MT} {body : List Stmt} {ws : List (List Nat)} {b : MS} {r : List MatchCase} {cs : CsG} (P : PatOk pat ws) (hg : IT X T W g tg) (hb : ISs X T W body b) (t : CasesG X T W r cs) : CasesG X T W (⟨pat, some g, body⟩ :: r) ((ws, some tg, b) :: cs)
end
end LT
namespace LI
open PySem PySem.Spec PyProof.Rows L2 LT
section
variable {env : Lo} {st : Sto} {N : Lo → Sto → Prop} {R : Dt → Sto → Prop}
end
end LI
set_option Elab.async false
set_option linter.all false
set_option maxRecDepth 100000
set_option maxHeartbeats 2000000
namespace TL
open PySem PySem.Spec PyProof.Rows PySem.Builtin PySem.Builtin.Str PySem.StrLaws
end TL
namespace TKO
open PySem PySem.Spec PyProof.Rows L2
section
variable {X : Cx}
def PEo (X : Cx) (e : Expr) (t : TE) : Prop :=
  ∀ (pins : List (Addr × Obj)) (s : Shared) (σ : L2.St) (H : Hp) (Q : VK), Inv X pins σ H s → t σ H Q → wpAny (model X.prog X.w) X.A (eval e X.env) (fun u s' => 1 ≤ s'.toks ∧ EP X pins σ Q u s') X.xe s
def PTo (X : Cx) (e : Expr) (t : TT) : Prop :=
  ∀ (pins : List (Addr × Obj)) (s : Shared) (σ : L2.St) (H : Hp) (Q : Bool → Hp → Prop), Inv X pins σ H s → t σ H Q → wpAny (model X.prog X.w) X.A (isTrue e X.env (eval e X.env)) (fun d s' => 1 ≤ s'.toks ∧ TP X pins σ Q d s') X.xe s
theorem PEo.w {e : Expr} {t t' : TE} (h : PEo X e t) (w : ∀ σ H Q, t' σ H Q → t σ H Q) : PEo X e t' := fun pins s σ H Q I q => h pins s σ H Q I (w σ H Q q)
theorem PTo.w {e : Expr} {t t' : TT} (h : PTo X e t) (w : ∀ σ H Q, t' σ H Q → t σ H Q) : PTo X e t' := fun pins s σ H Q I q => h pins s σ H Q I (w σ H Q q)
end
end TKO
namespace LT
open PySem PySem.Spec PyProof.Rows L2 TKO
section
variable {X : Cx} {T : Tb} {W : WX} {ma mb mo : ME} {ta : MT}
end
end LT
namespace LI
open PySem PySem.Spec PyProof.Rows L2 LT
section
variable {env : Lo} {st : Sto} {P : Dt → Sto → Prop}
end
end LI
set_option Elab.async false
set_option linter.all false
set_option maxRecDepth 100000
set_option maxHeartbeats 2000000
namespace USt
open PySem PySem.Spec PyProof.Rows PySem.W PySem.Calls
section
variable {prog : Program} {w : World} {A : Around} {E : Value → Shared → Prop} {s : Shared}
end
end USt
namespace L2
open PySem PySem.Spec PyProof.Rows
section
variable {X : Cx}
end
end L2
namespace LT
open PySem PySem.Spec PyProof.Rows L2
section
variable {X : Cx} {T : Tb} {W : WX}
end
end LT
namespace LI
open PySem PySem.Spec PyProof.Rows L2 LT
section
variable {env : Lo} {st : Sto} {N : Lo → Sto → Prop} {R : Dt → Sto → Prop}
end
end LI
set_option Elab.async false
set_option linter.all false
set_option maxRecDepth 100000
set_option maxHeartbeats 2000000
namespace LT
open PySem PySem.Spec PyProof.Rows L2
section
variable {X : Cx} {T : Tb} {W : WX} {me : ME}
end
end LT
namespace LI
open PySem PySem.Spec PyProof.Rows L2 LT
section
variable {env : Lo} {st : Sto} {P : Dt → Sto → Prop}
end
end LI
set_option Elab.async false
set_option linter.all false
set_option maxRecDepth 100000
set_option maxHeartbeats 1000000
namespace L2
open PySem PySem.Spec PyProof.Rows
section
variable {X : Cx}
end
end L2
namespace LT
open PySem PySem.Spec PyProof.Rows L2
def spErr0 (K : PySem.W.Frag) : Sp := fun vs H Q _ => ∃ a C, vs = [.ref a] ∧ OexC K C ∧ H a = some (exo a C none) ∧ Q .non H
structure ErrOk0 (P : Program) (w : World) (K : PySem.W.Frag) (mg : Str → Option Value) (base : Heap) (B : Tz) (x : Str) (c j : Nat) : Prop where
  mgC : mg x = some (.ref (B.cls c))
  ox : OexC K (B.cls c)
  ex : ∃ fI fd, PySem.W.findIn K (.ref (B.cls c)) "__init__" = some (some (.ref fI)) ∧ PySem.W.typeIn K (.ref fI) = some (.type "function") ∧ Binds K fd ["self"] [] ∧ FnOk P w K mg base (L2.CX P w) j fI fd ["self"] (spErr0 K)
section
variable {X : Cx} {T : Tb} {W : WX}
def hK (m : Nat → Option Bool) (isA isB : Nat → Bool) (j : Nat) (zu zv : List Nat) : HM := fun c _ => match m c with
  | none => none
  | some false => some none
  | some true => some (some [(j, .str (if isA c && !isB c then zu else zv))])
structure SuKOk (K : PySem.W.Frag) (mg : Str → Option Value) (T : Tz) (x xA xB : Str) (m : Nat → Option Bool) (isA isB : Nat → Bool) : Prop where
  ex : ∃ Cx CA CB, mg x = some (.ref Cx) ∧ mg xA = some (.ref CA) ∧ mg xB = some (.ref CB) ∧ (∀ c, m c = some false → PySem.W.exmOne K (.ref (T.cls c)) (.ref Cx) = some false) ∧
    ∀ c, m c = some true → PySem.W.exmOne K (.ref (T.cls c)) (.ref Cx) = some true ∧ ExcC K (T.cls c) ∧ PySem.W.kitOne K (.ref (T.cls c)) (.ref CA) = some (isA c) ∧ PySem.W.kitOne K (.ref (T.cls c)) (.ref CB) = some (isB c)
abbrev PkT := List (Nat × Nat × MF)
inductive PickOk (X : Cx) (T : Tb) : PkT → Prop
  | nil : PickOk X T []
  | cons {y : Str} {c k n : Nat} {F : MF} {tbl : PkT} (V : FvOk X.mg T.b y c) (D : DefOk X.prog X.w X.K X.mg X.base T.b y k n F []) (hr : Room k X.A) (r : PickOk X T tbl) : PickOk X T ((c, n, F) :: tbl)
theorem PickOk.at_ {tbl : PkT} (h : PickOk X T tbl) {c n : Nat} {F : MF} (hl : tbl.lookup c = some (n, F)) : ∃ y k, FvOk X.mg T.b y c ∧ DefOk X.prog X.w X.K X.mg X.base T.b y k n F [] ∧ Room k X.A := by
  induction h with
  | nil => cases hl
  | @cons y c' k n' F' tbl V D hr r ih =>
    rw [List.lookup] at hl
    by_cases hc : c = c'
    · subst hc
      rw [beq_self_eq_true] at hl
      cases hl
      exact ⟨y, k, V, D, hr⟩
    · rw [beq_eq_false_iff_ne.mpr hc] at hl
      exact ih hl
end
end LT
set_option Elab.async false
set_option linter.all false
set_option maxRecDepth 100000
set_option maxHeartbeats 1000000
namespace LT
open PySem PySem.Spec PyProof.Rows L2
abbrev DkL := List (List Nat × Int)
structure DkOk (K : PySem.W.Frag) (w : World) (mg : Str → Option Value) (x : Str) (t : DkL) : Prop where
  ex : ∃ a, mg x = some (.ref a) ∧ ∀ (z : Str) (i : Int), t.lookup z.cps.toList = some i → KDct K w a z (.int i)
section
variable {X : Cx} {T : Tb} {W : WX}
end
section
variable {env : Lo} {st : Sto} {P : Dt → Sto → Prop}
end
end LT
set_option Elab.async false
set_option linter.all false
set_option maxRecDepth 100000
set_option maxHeartbeats 2000000
namespace LX
open PySem PySem.HandSPX PySem.Builtin PySem.Builtin.ObjectAttr
section
variable {M : Model} {A : Around} {E : Value → Shared → Prop} {h : Heap} {g : Array GenState} {d : Drawn} {t : Nat} {os : OsState}
variable {nm q : Str} {C N : Addr} {bs bm bmB : List Value} {hdct : Bool} {sn : List Str} {sub : List Value} {ab : Bool} {col : Option Bool} {dd : Option Addr} {k0 k1 k2 k3 k5 : Option Value} {B newId initId : String}
theorem check_newK (F : ExcBaseFacts B newId initId bmB) (hT : ∀ X : String, bm.contains (.type X) = bmB.contains (.type X)) {rest : List Value} {kw : List (Str × Value)} {Q : Unit → Shared → Prop}
    (hC : h.get? C = some (excClassObj nm q C N bs bm hdct sn sub ab col dd k0 k1 k2 k3 k5 newId)) (hq : Q () ⟨h, g, d, t, os⟩) : wpAny M A (checkBuiltinCall newId ⟨.ref C :: rest, kw⟩) Q E ⟨h, g, d, t, os⟩ := by
  have hcont : (Value.ref C :: bm).contains (.type B) = true := by rw [List.contains_cons, hT, F.hasB, Bool.or_true]
  have hstar := F.noStar
  simp only [checkBuiltinCall, F.newKind, F.newSplit, F.newRow]
  repeat (first | refine wpAny_loadPart_at hC ?_ | (refine wpAny_isSubtype_exc hC ?_; rw [hcont]) | refine wpAny_staticBase_exc hC ?_ | refine wpAny_madeBy_exc hC ?_ | simp only [bne_self_eq_false, Bool.false_eq_true, if_false] | wp_step)
  exact hq
end
section
variable {prog : Program} {w : World} {A : Around} {E : Value → Shared → Prop} {R : Result → Shared → Prop} {h : Heap} {g : Array GenState} {d : Drawn} {t : Nat} {os : OsState}
variable {nm q : Str} {C N : Addr} {bs bm bmB : List Value} {hdct : Bool} {sn : List Str} {sub : List Value} {ab : Bool} {col : Option Bool} {dd : Option Addr} {k0 k1 k2 k3 k5 : Option Value} {B newId initId : String}
theorem newK (F : ExcBaseFacts B newId initId bmB) (hT : ∀ X : String, bm.contains (.type X) = bmB.contains (.type X)) {rest : List Value} {kw : List (Str × Value)}
    (hC : h.get? C = some (excClassObj nm q C N bs bm hdct sn sub ab col dd k0 k1 k2 k3 k5 newId))
    (hq : R (.ok (.ret (.ref (h.objs.size + 1)))) ⟨(h.push { cls := .type "tuple", data := .seq rest.toArray }).push
      { cls := .ref C, data := .fields #[.ref h.objs.size, .none, .none, .none, .bool false, .none] }, g, d, t, os⟩) (hrest : rest.length ≤ sizeLine) :
    codeAny (model prog w) A (.builtin newId ⟨.ref C :: rest, kw⟩) R ⟨h, g, d, t, os⟩ := by
  have hends := F.ends
  have hcB : (Value.ref C :: bm).contains (.type B) = true := by rw [List.contains_cons, hT, F.hasB, Bool.or_true]
  have hcA : (Value.ref C :: bm).contains (.type "AttributeError") = false := by rw [List.contains_cons, hT, F.noAttr]; rfl
  have hcN : (Value.ref C :: bm).contains (.type "NameError") = false := by rw [List.contains_cons, hT, F.noName]; rfl
  refine codeAny_builtinAt F.entry ?_
  unfold Builtin.«BaseException.__new__»
  refine wpAt_bind ?_
  show wpAt _ _ _ (stack >>= _) _ _ _
  refine wpAt_bind (wpAt_stack fun p below => wpAt_of_wpAny ?_)
  wp_walk
  refine wpAt_of_wpAny ?_
  rw [F.owner]
  repeat (first | with_reducible refine wpAny_madeHere_exc F.canon hC ?_ | with_reducible refine wpAny_loadPart_at hC ?_ | (with_reducible refine wpAny_isSubtype_exc hC ?_; first | rw [hcB] | rw [hcA] | rw [hcN]) | wp_step)
  show R _ _
  rw [Heap.size_push]
  exact hq
theorem typeCallK (F : ExcBaseFacts B newId initId bmB) (hT : ∀ X : String, bm.contains (.type X) = bmB.contains (.type X)) {rest : List Value} {kw : List (Str × Value)} {fI : Addr} {Q : Fin → Shared → Prop}
    (hC : h.get? C = some (excClassObj nm q C N bs bm hdct sn sub ab col dd k0 k1 k2 k3 k5 newId))
    (hi : W.Looks (model prog w) h (typeLookup (.ref C) "__init__") (some (.ref fI))) (hb : ∀ self, W.Looks (model prog w) h (bindSpecial (.ref fI) self) (.ref fI, [self])) (hrest : rest.length ≤ sizeLine)
    (hq : codeAny (model prog w) A (.call (.ref fI) ⟨.ref (h.objs.size + 1) :: rest, kw⟩)
      (fun r s' => match r with | .ok (.ret v) => v = .none ∧ Q (.done (.ret (.ref (h.objs.size + 1)))) s' | .ok _ => False | .error e => E e s')
      ⟨(h.push (W.kdv_tup rest)).push (excO C h.objs.size), g, d, t, os⟩) :
    wpAny (model prog w) A (Builtin.«type.__call__» ⟨.ref C :: rest, kw⟩) Q E ⟨h, g, d, t, os⟩ := by
  repeat (first | with_reducible refine wpAny_loadPart_at hC ?_ | with_reducible refine wpAny_madeBy_exc hC ?_ | wp_step)
  refine codeAny_call_builtin_code (Code.quiet_builtin _ F.quiet) (check_newK F hT hC ?_)
  refine newK F hT hC ?_ hrest
  show wpAny _ _ _ _ _ _
  have k : ∀ b o, h.get? b = some o → ((h.push (W.kdv_tup rest)).push (excO C h.objs.size)).get? b = some o := fun b o e => Heap.get?_push_of_some _ (Heap.get?_push_of_some _ e)
  have hC₁ := k _ _ hC
  have hget : ((h.push (W.kdv_tup rest)).push (excO C h.objs.size)).get? (h.objs.size + 1) = some (excO C h.objs.size) := by heap_get
  have hcC : (Value.ref C :: bm).contains (.ref C) = true := by simp
  have i1 := hi.keeps k
  have b1 := (hb (.ref (h.objs.size + 1))).keeps k
  unfold isInstance
  repeat (first | with_reducible refine wpAny_loadPart_at hget ?_ | (with_reducible refine wpAny_isSubtype_exc hC₁ ?_; rw [hcC]) | wp_step)
  show wpAny _ _ (typeLookup (.ref C) _) _ _ _
  refine i1.at ?_
  refine wpAny_holding (wpAny_bind (b1.at ?_))
  refine wpAny_bind (wpAny_call (codeAny_mono hq fun r s' z => ?_))
  rcases r with e | (v | _ | _ | _) <;> first | exact z | exact z.elim | skip
  obtain ⟨rfl, z⟩ := z
  first
    | exact wpAny_pure (wpAny_pure z)
    | (wp_walk; exact z)
theorem call_ownK (F : ExcBaseFacts B newId initId bmB) (hT : ∀ X : String, bm.contains (.type X) = bmB.contains (.type X)) {rest : List Value} {kw : List (Str × Value)} {fI : Addr}
    (hC : h.get? C = some (excClassObj nm q C N bs bm hdct sn sub ab col dd k0 k1 k2 k3 k5 newId))
    (hi : W.Looks (model prog w) h (typeLookup (.ref C) "__init__") (some (.ref fI))) (hb : ∀ self, W.Looks (model prog w) h (bindSpecial (.ref fI) self) (.ref fI, [self])) (hrest : rest.length ≤ sizeLine)
    (hq : codeAny (model prog w) (A.under (.builtin "type.__call__" ⟨.ref C :: rest, kw⟩)) (.call (.ref fI) ⟨.ref (h.objs.size + 1) :: rest, kw⟩) (W.InitBack (h.objs.size + 1) R)
      ⟨(h.push (W.kdv_tup rest)).push (excO C h.objs.size), g, d, t, os⟩) :
    codeAny (model prog w) A (.call (.ref C) ⟨rest, kw⟩) R ⟨h, g, d, t, os⟩ := by
  have f1 := tc_lookup
  have f2 := tc_bind (.ref C)
  have hTy : (⟨h, g, d, t, os⟩ : Shared).TypeIs (.ref C) "type" := ⟨_, hC, rfl⟩
  refine codeAny_of_tree ?_
  show wpAny _ _ (callAny (.ref C) _) _ _ _
  repeat (any_goals (first | assumption | with_reducible refine wpAny_loadPart_at hC ?_ | wp_step))
  refine ⟨rfl, ?_⟩
  refine codeAny_call_builtin_at (Code.quiet_builtin _ (by decide +kernel)) entry_typeCall (wpAny_check_type_call_sub hC (typeCallK F hT hC hi hb hrest ?_))
  refine codeAny_mono hq fun r s' z => ?_
  rcases r with e | (v | _ | _ | _) <;> exact z
end
end LX
namespace L2
open PySem PySem.Spec PyProof.Rows
def tMkE (C : Addr) (sp : Sp) (ta : TA) : TE := fun σ H Q => ta σ H fun vs H1 => vs.length ≤ 1000 ∧ ∀ a, H1 a = none → sp (.ref a :: vs) (upd H1 a (exo a C none)) (fun v H2 => v = .non ∧ Q (.ref a) H2) (fun _ _ _ => False)
section
variable {X : Cx} {e : Expr} {es : List Expr} {ta : TA} {p pos : Pos}
theorem run_mkE {pins : List (Addr × Obj)} {σ : St} {H : Hp} {s : Shared} {Q : VK} {C fI : Addr} {k : Nat} {fd : FuncData} {ps : List Str} {sp : Sp} {us vs' : List Value} {zs : List V} {kw : List (Str × Value)} (T : OexC X.K C) (iC : PySem.W.findIn X.K (.ref C) "__init__" = some (some (.ref fI))) (tI : PySem.W.typeIn X.K (.ref fI) = some (.type "function"))
    (F1 : FnOk X.prog X.w X.K X.mg X.base (L2.CX X.prog X.w) k fI fd ps sp) (hr : Room (k + 1) X.A) (hx : Passes (L2.CX X.prog X.w) X (fun _ _ _ => False)) (I : Inv X pins σ H s) (hus : us.length ≤ 1000)
    (hb : ∀ (s2 : Shared) (a : Addr), X.K.In s2.heap → BindsTo s2 fd ⟨.ref a :: us, kw⟩ (ps.zip (.ref a :: vs'))) (r : Vals zs vs')
    (q1 : ∀ a, H a = none → sp (.ref a :: zs) (upd H a (exo a C none)) (fun v H2 => v = .non ∧ Q (.ref a) H2) (fun _ _ _ => False)) :
    wpAny (model X.prog X.w) X.A (call (.ref C) us kw) (EP X pins σ Q) X.xe s := by
  obtain ⟨nm, q, N, bs, bm, sn, sub, ab, col, dd, k0, k1, k2, k3, k5, hC, hbm⟩ := T.cls
  obtain ⟨hp, g, dr, tk, os⟩ := s
  have hsz : hp.objs.size ≤ hp.objs.size + 1 := Nat.le_succ _
  have hn : H (hp.objs.size + 1) = none := I.hok.fresh hsz
  have hq := q1 (hp.objs.size + 1) hn
  have kk : ∀ b o, hp.get? b = some o → ((hp.push (PySem.W.kdv_tup us)).push (PySem.HandSPX.excO C hp.objs.size)).get? b = some o := fun b o e => Heap.get?_push_of_some _ (Heap.get?_push_of_some _ e)
  have hget : ((hp.push (PySem.W.kdv_tup us)).push (PySem.HandSPX.excO C hp.objs.size)).get? (hp.objs.size + 1) = some (PySem.HandSPX.excO C hp.objs.size) := by heap_get
  have I2 : Inv X pins σ (upd H (hp.objs.size + 1) (exo (hp.objs.size + 1) C none)) ⟨(hp.push (PySem.W.kdv_tup us)).push (PySem.HandSPX.excO C hp.objs.size), g, dr, tk, os⟩ :=
    I.laid (t' := tk) (a := hp.objs.size + 1) (o := exo (hp.objs.size + 1) C none) (h' := (hp.push (PySem.W.kdv_tup us)).push (PySem.HandSPX.excO C hp.objs.size)) kk hsz (exo_ok hget)
  refine wpAny_call (LX.call_ownK F.excBase_ValueError (fun Y => PySem.HandSPX.refsVE_contains Y bm hbm) (I.kIn _ _ hC) (PySem.W.looks_findIn I.kIn iC) (fun self => PySem.W.bind_fn I.kIn self tI) (by rw [sizeLine_eq]; omega)
    (codeAny_mono (F1.run _ X.stack _ _ ⟨Value.ref (hp.objs.size + 1) :: us, kw⟩ (Value.ref (hp.objs.size + 1) :: vs') _ _ (fun _ _ _ => False) (hr.make C us kw) (I2.env0.make C us kw) (hb _ _ I2.kIn) (show Vals (V.ref (hp.objs.size + 1) :: zs) (Value.ref (hp.objs.size + 1) :: vs') from .cons rfl r) hq) fun r s' hq' => ?_))
  cases r with
  | error er => exact hx pins σ _ _ er s' I2 hq'
  | ok fl =>
    cases fl with
    | ret u =>
      obtain ⟨v, H2, J, rv, ev, q2⟩ := I2.after hq'
      subst ev
      exact ⟨rv, .ref (hp.objs.size + 1), H2, J, rfl, q2⟩
    | next => exact False.elim hq'
    | brk => exact False.elim hq'
    | cont => exact False.elim hq'
theorem pe_mkE {x : Str} {C fI : Addr} {k : Nat} {fd : FuncData} {ps : List Str} {sp : Sp} (T : OexC X.K C) (iC : PySem.W.findIn X.K (.ref C) "__init__" = some (some (.ref fI))) (tI : PySem.W.typeIn X.K (.ref fI) = some (.type "function"))
    (F1 : FnOk X.prog X.w X.K X.mg X.base (L2.CX X.prog X.w) k fI fd ps sp) (hr : Room (k + 1) X.A) (hb : Binds X.K fd ps []) (hx : Passes (L2.CX X.prog X.w) X (fun _ _ _ => False)) (hg : Gl X x) (hm : X.mg x = some (.ref C)) (ha : PA X (e :: es) ta)
    (hdb : (x == ("__debug__" : Str)) = false := by decide) (he : starEach (e :: es) X.env = (false, eval e X.env) :: starEach es X.env := by rfl) (hpl : (backTo pos (starEach es X.env)).any (·.1) = false := by rfl) :
    PE X (.Call (.Name x p) (e :: es) [] pos) (tMkE C sp ta) := by
  refine ⟨fun pins s σ H Q I h => ?_⟩
  refine wpAny_Call_Name_kw (ld_glob I hg hm ?_ hdb)
  refine PySem.W.callWith_K (h₀ := X.base) I.ok.mod.kin T.kC (thn (ha.run pos pins s σ H _ I h) fun us s1 ⟨vs, H1, I1, r1, hz, q1⟩ => ⟨I1.kIn, ?_⟩) he hpl
  have hl : us.length = vs.length := r1.length.symm
  have hps : ∀ a, (Value.ref a :: us).length = ps.length := fun a => by
    have e := F1.len _ _ _ _ (q1 (s1.heap.objs.size + 1) (I1.hok.fresh (Nat.le_succ _)))
    rw [List.length_cons] at e ⊢
    omega
  show wpAny _ _ (call (.ref C) us) _ _ _
  exact run_mkE T iC tI F1 hr hx I1 (by omega) (fun s2 a k2 => by simpa using hb s2 (Value.ref a :: us) k2 (by simpa using hps a)) r1 q1
end
end L2
namespace L2
open PySem PySem.Spec PyProof.Rows
section
variable {X : Cx} {p pos : Pos}
theorem pe_mkE0 {x : Str} {C fI : Addr} {k : Nat} {fd : FuncData} {sp : Sp} (T : OexC X.K C) (iC : PySem.W.findIn X.K (.ref C) "__init__" = some (some (.ref fI))) (tI : PySem.W.typeIn X.K (.ref fI) = some (.type "function"))
    (F1 : FnOk X.prog X.w X.K X.mg X.base (L2.CX X.prog X.w) k fI fd ["self"] sp) (hr : Room (k + 1) X.A) (hb : Binds X.K fd ["self"] []) (hx : Passes (L2.CX X.prog X.w) X (fun _ _ _ => False)) (hg : Gl X x) (hm : X.mg x = some (.ref C))
    (hdb : (x == ("__debug__" : Str)) = false := by decide) :
    PE X (.Call (.Name x p) [] [] pos) (tMkE C sp tNil) := by
  refine ⟨fun pins s σ H Q I h => ?_⟩
  refine wpAny_Call_Name_kw (ld_glob I hg hm (PySem.W.callWith_K0 I.kIn T.kC ?_) hdb)
  show wpAny _ _ (call (.ref C) []) _ _ _
  exact run_mkE (us := []) (zs := []) (vs' := []) T iC tI F1 hr hx I (by decide) (fun s2 a k2 => by simpa using hb s2 [Value.ref a] k2 rfl) .nil h.2
theorem pe_mkEK {x : Str} {C fI : Addr} {k : Nat} {fd : FuncData} {ps ks : List Str} {sp : Sp} {kws : List Keyword} {tk : TA} (T : OexC X.K C) (iC : PySem.W.findIn X.K (.ref C) "__init__" = some (some (.ref fI))) (tI : PySem.W.typeIn X.K (.ref fI) = some (.type "function"))
    (F1 : FnOk X.prog X.w X.K X.mg X.base (L2.CX X.prog X.w) k fI fd ps sp) (hr : Room (k + 1) X.A) {gV : List V → List V → List V} (hb : KBn X.K fd ps 1 ks (fun us ws => us ++ ws) gV) (hx : Passes (L2.CX X.prog X.w) X (fun _ _ _ => False)) (hg : Gl X x) (hm : X.mg x = some (.ref C)) (hkw : PK X kws tk)
    (hall : (backToKw pos (keywordEach kws X.env)).all (·.1.isSome) = true := by rfl) (hks : (backToKw pos (keywordEach kws X.env)).filterMap (·.1) = ks := by rfl) (hdb : (x == ("__debug__" : Str)) = false := by decide)
    (hpl : ((backTo pos (starEach [] X.env)).any (·.1) || (backToKw pos (keywordEach kws X.env)).any (·.1.isNone)) = false := by rfl) :
    PE X (.Call (.Name x p) [] kws pos) (fun σ H Q => tk σ H fun vs H1 => vs.length = ks.length ∧ ∀ a, H1 a = none → sp (.ref a :: vs) (upd H1 a (exo a C none)) (fun v H2 => v = .non ∧ Q (.ref a) H2) (fun _ _ _ => False)) := by
  refine ⟨fun pins s σ H Q I h => ?_⟩
  refine wpAny_Call_Name_kw (ld_glob I hg hm ?_ hdb)
  refine PySem.W.callWith_KW0 (h₀ := X.base) I.ok.mod.kin T.kC hall ?_ hpl
  refine thn (hkw.run pos pins s σ H _ I h) fun ws s2 ⟨zs, H2, I2, rz, l2, q2⟩ => ⟨I2.kIn, ?_⟩
  rw [hks]
  exact run_mkE (us := []) T iC tI F1 hr hx I2 (by decide) (fun s3 a k3 => hb.to s3 [Value.ref a] ws k3 rfl (by rw [← rz.length, l2])) rz q2
def tXfA (f : Str) (te : TE) : TE := fun σ H Q => te σ H fun x H1 => ∃ (a C dd : Addr) (fs : List (Str × V)) (v : V), x = .ref a ∧ H1 a = some (exo a C (some dd)) ∧ XfC X.K C ∧ PySem.W.findIn X.K (.ref C) f = some none ∧ H1 dd = some (exd dd fs) ∧ fs.lookup f = some v ∧ Q v H1
theorem pe_xfA {e : Expr} {te : TE} {n : Str} (he : PE X e te) (hb : attributeBase e n X.env (eval e X.env) = eval e X.env := by rfl) : PE X (.Attribute e n pos) (tXfA (X := X) n te) := by
  refine ⟨fun pins s σ H Q I h => ?_⟩
  refine attr_of hb (thn (he.run pins s σ H _ I h) fun u s1 hh => ?_)
  obtain ⟨x, H1, I1, rx, a, C, dd, fs, v, ex, ea, T, hno, ed, l, q⟩ := hh
  subst ex
  obtain rfl : u = Value.ref a := rx
  obtain ⟨t1, ho⟩ := exo_at I1.hok ea
  obtain ⟨mA, hns, hr⟩ := exd_at I1.hok ed
  obtain ⟨od, hod, hl⟩ := lookIn_ns hns
  obtain ⟨u, hu, ru⟩ := RelO.some_of (v := v) (o := mA n) (by rw [← l]; exact hr n)
  have J : PySem.W.InstAt s1.heap a _ C (some od) := ⟨ho, rfl, rfl, hod⟩
  exact HandSPX.exc_get I1.kIn J T.ga T.gg T.exC (PySem.W.findObj_own T.hdC hno rfl (by rw [hl, hu])) (handed_of ru) ⟨v, H1, I1.tok _, ru, q⟩
end
end L2
set_option Elab.async false
set_option linter.all false
set_option maxRecDepth 100000
set_option maxHeartbeats 1000000
namespace L2
open PySem PySem.Spec PyProof.Rows
def rIsA (K : PySem.W.Frag) : List V → Hp → VK → Prop := fun xs H Q => ∃ (a D : Addr) (d : Option Addr) (c : V) (cv : Value) (b : Bool), xs = [.ref a, c] ∧ H a = some (exo a D d) ∧ (d = none ∨ ∃ dd fs, d = some dd ∧ H dd = some (exd dd fs)) ∧ ExcC K D ∧ (∀ u, RelV c u → u = cv) ∧ PySem.W.kitOne K (.ref D) cv = some b ∧ Q (.bl b) H
theorem call_isA {X : Cx} : CallR X (.builtin "isinstance") (rIsA X.K) := by
  intro pins s σ H xs us Q I r h
  obtain ⟨a, D, d, c, cv, b, rfl, ea, hd, C, hcv, ek, q⟩ := h
  cases r with
  | cons rx rr =>
    cases rr with
    | cons rt rr =>
      cases rr
      cases rx
      obtain rfl := hcv _ rt
      obtain ⟨t1, ho⟩ := exo_at I.hok ea
      rcases hd with rfl | ⟨dd, fs, rfl, ed⟩
      · have J : PySem.W.InstAt s.heap a _ D none := ⟨ho, rfl, rfl, trivial⟩
        exact PySem.W.kia_one (PySem.W.handS_kitx_exc C.hg C.hk C.hs C.hd C.ha C.hn C.ht C.hm) I.kIn J ek (fun z => nomatch z) fun tk => ⟨.bl b, H, I.kept (t' := tk) fun _ _ z => z, rfl, q⟩
      · obtain ⟨mA, hns, hr⟩ := exd_at I.hok ed
        obtain ⟨od, hod, hl⟩ := lookIn_ns hns
        have J : PySem.W.InstAt s.heap a _ D (some od) := ⟨ho, rfl, rfl, hod⟩
        exact PySem.W.kia_one (PySem.W.lt_kitE C) I.kIn J ek (fun z => nomatch z) fun tk => ⟨.bl b, H, I.kept (t' := tk) fun _ _ z => z, rfl, q⟩
end L2
namespace LT
open PySem PySem.Spec PyProof.Rows L2
def mMkE (c k : Nat) (a : ME) : ME := fun env st => (a env st).bind fun d st1 => .ok (.er c [(k, d)]) st1
def mMkE0 (c : Nat) : ME := fun _ st => .ok (.er c []) st
def mFldE (cs : List Nat) (k : Nat) (a : ME) : ME := fun env st => (a env st).bind fun d st1 => match d with
  | .er c fs => if cs.contains c = true then (match fs.lookup k with | some v => .ok v st1 | none => .stuck) else .stuck
  | _ => .stuck
def mIsE (q : Nat → Option Bool) (a : ME) : ME := fun env st => (a env st).bind fun d st1 => match d with
  | .er c _ => (match q c with | some b => .ok (.bl b) st1 | none => .stuck)
  | _ => .stuck
structure XfOk (K : PySem.W.Frag) (B : Tz) (cs : List Nat) (k : Nat) (fn : Str) : Prop where
  nm : B.fld k = fn
  ok : ∀ c, cs.contains c = true → XfC K (B.cls c) ∧ PySem.W.findIn K (.ref (B.cls c)) fn = some none
structure IsEOk (K : PySem.W.Frag) (B : Tz) (u : Value) (q : Nat → Option Bool) : Prop where
  ok : ∀ c b, q c = some b → ExcC K (B.cls c) ∧ PySem.W.kitOne K (.ref (B.cls c)) u = some b
structure ErrKOk (P : Program) (w : World) (K : PySem.W.Frag) (mg : Str → Option Value) (base : Heap) (B : Tz) (x fn : Str) (c k j : Nat) : Prop where
  nm : B.fld k = fn
  mgC : mg x = some (.ref (B.cls c))
  ox : OexC K (B.cls c)
  no : PySem.W.findIn K (.ref (B.cls c)) fn = some none
  ex : ∃ fI fd, PySem.W.findIn K (.ref (B.cls c)) "__init__" = some (some (.ref fI)) ∧ PySem.W.typeIn K (.ref fI) = some (.type "function") ∧ KBn K fd ["self", fn] 1 [fn] (fun us ws => us ++ ws) (fun vs zs => vs ++ zs) ∧ FnOk P w K mg base (L2.CX P w) j fI fd ["self", fn] (spErr K fn)
section
variable {K : PySem.W.Frag} {T : Tb}
theorem new_er {f : List Addr} {H : Hp} {st : Sto} {c k : Nat} {d : Dt} {v : V} {a dx : Addr} {W : Value → Option Addr → Hp → Prop} {Q : VK} (p : Post K T (rV K T) W f H (.ok (.er c [(k, d)]) st) Q) (rh : RH K T f H st) (ha : H a = none) (hdx : H dx = none) (ne : dx ≠ a) (rv : RV K T H f d v) :
    Q (.ref a) (upd (upd (upd H a (exo a (T.cls c) none)) dx (exd dx [(T.fld k, v)])) a (exo a (T.cls c) (some dx))) := by
  have e : upd (upd (upd H a (exo a (T.cls c) none)) dx (exd dx [(T.fld k, v)])) a (exo a (T.cls c) (some dx)) = upd (upd H dx (exd dx [(T.fld k, v)])) a (exo a (T.cls c) (some dx)) := by
    funext b
    by_cases hb : b = a
    · rw [hb, upd_same, upd_same]
    · rw [upd_ne hb, upd_ne hb]
      by_cases h2 : b = dx
      · rw [h2, upd_same, upd_same]
      · rw [upd_ne h2, upd_ne h2, upd_ne hb]
  rw [e]
  have n1 : (upd H dx (exd dx [(T.fld k, v)])) a = none := (upd_ne (Ne.symm ne)).trans ha
  have s1 : Stay K T f H f (upd H dx (exd dx [(T.fld k, v)])) := Stay.new hdx
  have s2 : Stay K T f (upd H dx (exd dx [(T.fld k, v)])) f (upd (upd H dx (exd dx [(T.fld k, v)])) a (exo a (T.cls c) (some dx))) := Stay.new n1
  have rh1 := rh.side (u := exd dx [(T.fld k, v)]) hdx
  have rh2 := rh1.side (u := exo a (T.cls c) (some dx)) n1
  refine p f _ (.ref a) (List.prefix_refl _) (s1.trans s2) rh2 ?_
  exact .er (rh.free ha) (rh.free hdx) upd_same ((upd_ne ne).trans upd_same) (.cons ((rv.mono (List.prefix_refl _) s1).mono (List.prefix_refl _) s2) .nil)
end
section
variable {X : Cx} {T : Tb} {W : WX} {e : Expr} {me : ME} {x fn : Str} {c k j : Nat} {p pos : Pos}
theorem ie_mkE (D : ErrOk X.prog X.w X.K X.mg X.base T.b x fn c k j) (hr : Room (j + 1) X.A) (he : IE X T W e me) (hg : Gl X x := by rfl) (hdb : (x == ("__debug__" : Str)) = false := by decide) (h1 : starEach [e] X.env = (false, eval e X.env) :: starEach [] X.env := by rfl) (hpl : (backTo pos (starEach [] X.env)).any (·.1) = false := by rfl) :
    IE X T W (.Call (.Name x p) [e] [] pos) (mMkE c k me) := by
  obtain ⟨fI, fd, a1, a2, a3, a4⟩ := D.ex
  have hk : T.fld k = fn := D.nm
  subst hk
  exact PEw (pe_mkE D.ox a1 a2 a4 hr a3 passL hg D.mgC (pa_cons he pa_nil h1) hdb h1 hpl) fun σ H Q ⟨f, env, st, re, rh, p⟩ =>
    ⟨f, env, st, re, rh, p.bind fun d st1 f1 H1 v hp s rh1 rv p1 => ⟨by show 1 ≤ 1000; decide, fun a ha => ⟨a, T.cls c, v, rfl, D.ox, D.no, upd_same, fun dx hdx ne => ⟨rfl, by
      rw [upd_ne ne] at hdx
      exact new_er p1 rh1 ha hdx ne rv⟩⟩⟩⟩
theorem ie_mkE0 (D : ErrOk0 X.prog X.w X.K X.mg X.base T.b x c j) (hr : Room (j + 1) X.A) (hg : Gl X x := by rfl) (hdb : (x == ("__debug__" : Str)) = false := by decide) : IE X T W (.Call (.Name x p) [] [] pos) (mMkE0 c) := by
  obtain ⟨fI, fd, a1, a2, a3, a4⟩ := D.ex
  refine PEw (pe_mkE0 D.ox a1 a2 a4 hr a3 passL hg D.mgC hdb) fun σ H Q ⟨f, env, st, re, rh, p⟩ => ⟨by show 0 ≤ 1000; decide, fun a ha => ⟨a, T.cls c, rfl, D.ox, upd_same, rfl, ?_⟩⟩
  exact p f _ (.ref a) (List.prefix_refl _) (Stay.new ha) (rh.side ha) (.er0 (rh.free ha) upd_same)
theorem ie_mkEK {kpos : Pos} (D : ErrKOk X.prog X.w X.K X.mg X.base T.b x fn c k j) (hr : Room (j + 1) X.A) (he : IE X T W e me) (hg : Gl X x := by rfl) (hdb : (x == ("__debug__" : Str)) = false := by decide)
    (hall : (backToKw pos (keywordEach [⟨some fn, e, kpos⟩] X.env)).all (·.1.isSome) = true := by rfl) (hks : (backToKw pos (keywordEach [⟨some fn, e, kpos⟩] X.env)).filterMap (·.1) = [fn] := by rfl)
    (hpl : ((backTo pos (starEach [] X.env)).any (·.1) || (backToKw pos (keywordEach [⟨some fn, e, kpos⟩] X.env)).any (·.1.isNone)) = false := by rfl) :
    IE X T W (.Call (.Name x p) [] [⟨some fn, e, kpos⟩] pos) (mMkE c k me) := by
  obtain ⟨fI, fd, a1, a2, a3, a4⟩ := D.ex
  have hk : T.fld k = fn := D.nm
  subst hk
  exact PEw (pe_mkEK D.ox a1 a2 a4 hr a3 passL hg D.mgC (pk_cons he pk_nil) hall hks hdb hpl) fun σ H Q ⟨f, env, st, re, rh, p⟩ =>
    ⟨f, env, st, re, rh, p.bind fun d st1 f1 H1 v hp s rh1 rv p1 => ⟨rfl, fun a ha => ⟨a, T.cls c, v, rfl, D.ox, D.no, upd_same, fun dx hdx ne => ⟨rfl, by
      rw [upd_ne ne] at hdx
      exact new_er p1 rh1 ha hdx ne rv⟩⟩⟩⟩
theorem ie_fldE {cs : List Nat} (D : XfOk X.K T.b cs k fn) (he : IE X T W e me) (hb : attributeBase e fn X.env (eval e X.env) = eval e X.env := by rfl) : IE X T W (.Attribute e fn pos) (mFldE cs k me) := by
  have hk : T.fld k = fn := D.nm
  subst hk
  exact PEw (pe_xfA he hb) fun σ H Q ⟨f, env, st, re, rh, p⟩ =>
    ⟨f, env, st, re, rh, p.bind fun d st1 f1 H1 v hp s rh1 rv p1 => by
      cases rv with
      | @er c fs vs a dx hf hx h h2 r =>
        dsimp only at p1
        by_cases hc : cs.contains c = true
        · rw [if_pos hc] at p1
          cases hl : fs.lookup k with
          | none => rw [hl] at p1; exact p1.elim
          | some d2 =>
            rw [hl] at p1
            obtain ⟨v2, l2, r2⟩ := FR.lookup r hl
            exact ⟨a, _, dx, vs, v2, rfl, h, (D.ok c hc).1, (D.ok c hc).2, h2, l2, p1.now rh1 r2⟩
        · rw [if_neg hc] at p1; exact p1.elim
      | @er0 c a hf h =>
        dsimp only [List.lookup] at p1
        by_cases hc : cs.contains c = true
        · rw [if_pos hc] at p1; exact p1.elim
        · rw [if_neg hc] at p1; exact p1.elim
      | _ => exact p1.elim⟩
theorem ie_isE {ce : Expr} {cv : V} {u : Value} {q : Nat → Option Bool} (D : IsEOk X.K T.b u q) (hcv : ∀ z, RelV cv z → z = u) (hm : X.mg "isinstance" = none) (hc : PE X ce (tC cv)) (he : IE X T W e me) (hg : Gl X "isinstance" := by rfl)
    (h1 : starEach [e, ce] X.env = (false, eval e X.env) :: starEach [ce] X.env := by rfl) (h2 : starEach [ce] X.env = (false, eval ce X.env) :: starEach [] X.env := by rfl) (hpl : (backTo pos (starEach [ce] X.env)).any (·.1) = false := by rfl) :
    IE X T W (.Call (.Name "isinstance" p) [e, ce] [] pos) (mIsE q me) :=
  PEw (pe_callB call_isA hg hm (by decide +kernel) (pa_cons he (pa_cons hc pa_nil h2) h1) (by decide) (by decide) h1 hpl) fun σ H Q ⟨f, env, st, re, rh, p⟩ =>
    ⟨f, env, st, re, rh, p.bind fun d st1 f1 H1 v hp s rh1 rv p1 => by
      cases rv with
      | @er c fs vs a dx hf hx h h2 r =>
        cases hl : q c with
        | none => simp only [hl] at p1; exact p1.elim
        | some b =>
          simp only [hl] at p1
          exact ⟨a, _, _, cv, u, b, rfl, h, .inr ⟨dx, vs, rfl, h2⟩, (D.ok c b hl).1, hcv, (D.ok c b hl).2, p1.now rh1 (.bl b)⟩
      | @er0 c a hf h =>
        cases hl : q c with
        | none => simp only [hl] at p1; exact p1.elim
        | some b =>
          simp only [hl] at p1
          exact ⟨a, _, _, cv, u, b, rfl, h, .inl rfl, (D.ok c b hl).1, hcv, (D.ok c b hl).2, p1.now rh1 (.bl b)⟩
      | _ => exact p1.elim⟩
end
theorem isE_ok {K : PySem.W.Frag} {B : Tz} {u : Value} {l : List (Nat × Bool)} (h : ∀ p ∈ l, ExcC K (B.cls p.1) ∧ PySem.W.kitOne K (.ref (B.cls p.1)) u = some p.2) : IsEOk K B u (fun c => l.lookup c) := ⟨by
  intro c b hl
  have hm : (c, b) ∈ l := by
    clear h
    induction l with
    | nil => cases hl
    | cons p r ih =>
      obtain ⟨x, y⟩ := p
      rw [List.lookup_cons] at hl
      by_cases e : c = x
      · subst e
        simp at hl
        subst hl
        exact List.mem_cons_self
      · rw [show (c == x) = false by simp [e]] at hl
        exact List.mem_cons_of_mem _ (ih hl)
  exact h _ hm⟩
theorem Fun.kbA {K : PySem.W.Frag} {x qual : Str} {st : Stmt} {f : Addr} {fd : FuncData} {ps : List Str} (F : Fun K x qual st f fd) (n : Nat) (ks : List Str)
    (h : ∀ (kV doc pm : Value) (an : Option Addr) (cdv ct : Value) (us ws : List Value), us.length = n → ws.length = ks.length → bindArgs (PySem.W.fnOf x qual (defArgs st) (defBody st) (defScope st) .none kV doc pm an cdv ct) ⟨us, ks.zip ws⟩ = pure (ps.zip (us ++ ws))) :
    KBn K fd ps n ks (fun us ws => us ++ ws) (fun vs zs => vs ++ zs) := by
  obtain ⟨oc, od, kV, doc, pm, an, cdv, ct, osl, rfl, lk, hcd⟩ := F.ex
  exact ⟨fun s us ws X l1 l2 => .of_eq (h kV doc pm an cdv ct us ws l1 l2), fun r1 r2 => r1.append r2⟩
end LT
set_option Elab.async false
set_option linter.all false
set_option maxRecDepth 100000
set_option maxHeartbeats 4000000
namespace Law
open PySem PySem.Spec PyProof.Rows L2 LT
def topS (i : Nat) : Stmt := PySem.Challenge.pw_laytwice_k01_errors.main.body.getD i (.Pass ⟨0, 0, 0, 0⟩)
section
variable {P : Program} {w : World} {K : PySem.W.Frag} {mg : Str → Option Value} {base : Heap} {B : Tz}
abbrev st_law_box : Stmt := topS 13
theorem sc_law_box : FnScope ["_law_script", "_law_k", "_law_own", "_law_cell", "_law_seed"] ["_law_script", "_law_k", "_law_own"] (defScope st_law_box) := ⟨rfl, rfl, rfl, by decide +kernel, rfl, by decide +kernel, by decide +kernel⟩
noncomputable def m_law_box : MS := (sSeq (sSet 3 (mBin addD (mBin addD (mBin mulD (mC (.int 7727)) (mVar 1)) (mBin mulD (mC (.int 104729)) (mVar 2))) (mC (.int 43)))) (sSeq (sIf (mB (mBin ltD (mVar 1) (mCB lenD (mCons (mVar 0) mNil)))) (sSet 3 (mCB absD (mCons (mBin ixD (mVar 0) (mVar 1)) mNil))) (sIf (mB (mBin gtD (mCB lenD (mCons (mVar 0) mNil)) (mC (.int 0)))) (sSet 3 (mBin addD (mVar 3) (mBin mulD (mBin modD (mCB cintD (mCons (mCB absD (mCons (mBin ixD (mVar 0) (mBin modD (mCB cintD (mCons (mVar 1) mNil)) (mCB lenD (mCons (mVar 0) mNil)))) mNil)) mNil)) (mC (.int 2147483629))) (mC (.int 69623))))) sNx)) (sSeq (sSet 4 (mBin addD (mBin modD (mCB cintD (mCons (mBin addD (mBin mulD (mBin modD (mCB cintD (mCons (mVar 3) mNil)) (mC (.int 2147483629))) (mC (.int 48271))) (mBin mulD (mC (.int 40692)) (mBin addD (mVar 1) (mBin mulD (mC (.int 11)) (mVar 2))))) mNil)) (mC (.int 2147483629))) (mC (.int 1)))) (sRet (mLst (mCons (mBin ixD (mLst (mCons (mC (.int 0)) (mCons (mVar 3) mNil))) (mCB cintD (mCons (mBin geD (mVar 3) (mBin powD (mC (.int 10)) (mC (.int 18)))) mNil))) (mCons (mVar 4) (mCons (mC (.int 0)) mNil))))))))
noncomputable def F_law_box : MF := (runF 5 m_law_box)
theorem run_law_box (x0 x1 x2 : Dt) (st : Sto) : F_law_box [x0, x1, x2] st = outF (m_law_box [some x0, some x1, some x2, none, none] st) := runF_out 5 _ [x0, x1, x2] st
theorem ok_law_box {f : Addr} {fd : FuncData} (F : Fun K "_law_box" "_law_box" st_law_box f fd) (b_len : mg "len" = none) (b_abs : mg "abs" = none) (b_int : mg "int" = none) : FnOk P w K mg base (L2.CX P w) 1 f fd ["_law_script", "_law_k", "_law_own"] (spF K B 3 F_law_box) := fn_ok (k := 0) F sc_law_box fun cdv A outer s H E rs hr => (iss_cons (is_set 3 sc_law_box.nd (ie_bin op_addD snd_add (ie_bin op_addD snd_add (ie_bin op_mulD snd_mul ie_int (ie_var 1)) (ie_bin op_mulD snd_mul ie_int (ie_var 2))) ie_int)) (iss_cons (is_if (it_cmp op_lt snd_lt (ie_var 1) (ie_callB call_lenA snd_len (by rfl) b_len PySem.boot_len (ia_cons (ie_var 0) ia_nil)) (nomark _)) (iss_one (is_set 3 sc_law_box.nd (ie_callB call_abs snd_abs (by rfl) b_abs (by decide +kernel) (ia_cons (ie_ix ix_seq snd_ix (ie_var 0) (ie_var 1)) ia_nil)))) (iss_one (is_if (it_cmp op_gt snd_gt (ie_callB call_lenA snd_len (by rfl) b_len PySem.boot_len (ia_cons (ie_var 0) ia_nil)) ie_int (nomark _)) (iss_one (is_set 3 sc_law_box.nd (ie_bin op_addD snd_add (ie_var 3) (ie_bin op_mulD snd_mul (ie_bin op_mod snd_mod (ie_callTy call_int1 snd_int (by rfl) b_int (by decide +kernel) (ia_cons (ie_callB call_abs snd_abs (by rfl) b_abs (by decide +kernel) (ia_cons (ie_ix ix_seq snd_ix (ie_var 0) (ie_bin op_mod snd_mod (ie_callTy call_int1 snd_int (by rfl) b_int (by decide +kernel) (ia_cons (ie_var 1) ia_nil)) (ie_callB call_lenA snd_len (by rfl) b_len PySem.boot_len (ia_cons (ie_var 0) ia_nil)))) ia_nil)) ia_nil)) ie_int) ie_int)))) iss_nil))) (iss_cons (is_set 4 sc_law_box.nd (ie_bin op_addD snd_add (ie_bin op_mod snd_mod (ie_callTy call_int1 snd_int (by rfl) b_int (by decide +kernel) (ia_cons (ie_bin op_addD snd_add (ie_bin op_mulD snd_mul (ie_bin op_mod snd_mod (ie_callTy call_int1 snd_int (by rfl) b_int (by decide +kernel) (ia_cons (ie_var 3) ia_nil)) ie_int) ie_int) (ie_bin op_mulD snd_mul ie_int (ie_bin op_addD snd_add (ie_var 1) (ie_bin op_mulD snd_mul ie_int (ie_var 2))))) ia_nil)) ie_int) ie_int)) (iss_one (is_ret (ie_lst (ia_cons (ie_ix ix_seq snd_ix (ie_lst (ia_cons ie_int (ia_cons (ie_var 3) ia_nil))) (ie_callTy call_int1 snd_int (by rfl) b_int (by decide +kernel) (ia_cons (ie_cmp op_ge snd_ge (ie_var 3) (ie_bin op_pow snd_pow ie_int ie_int) (nomark _)) ia_nil))) (ia_cons (ie_var 4) (ia_cons ie_int ia_nil)))))))))
abbrev st_law_take : Stmt := topS 14
theorem sc_law_take : FnScope ["_law_box_here", "_law_many", "_law_raw", "_law_wide", "_law_digit"] ["_law_box_here", "_law_many"] (defScope st_law_take) := ⟨rfl, rfl, rfl, by decide +kernel, rfl, by decide +kernel, by decide +kernel⟩
noncomputable def m_law_take : MS := (sSeq (sIf (mB (mBin gtD (mBin ixD (mVar 0) (mC (.int 0))) (mC (.int 0)))) (sSeq (sSet 4 (mBin modD (mCB cintD (mCons (mBin ixD (mVar 0) (mC (.int 0))) mNil)) (mVar 1))) (sSeq (sAsg (mBin fdivD (mBin ixD (mVar 0) (mC (.int 0))) (mVar 1)) (gSubL (mVar 0) (mC (.int 0)))) (sRet (mVar 4)))) sNx) (sSeq (sAsg (mBin addD (mBin ixD (mVar 0) (mC (.int 2))) (mC (.int 1))) (gSubL (mVar 0) (mC (.int 2)))) (sSeq (sSet 2 (mBin modD (mCB cintD (mCons (mBin mulD (mBin addD (mBin ixD (mVar 0) (mC (.int 1))) (mBin mulD (mC (.int 104729)) (mBin ixD (mVar 0) (mC (.int 2))))) (mC (.int 69623))) mNil)) (mC (.int 2147483647)))) (sSeq (sAsg (mBin addD (mBin modD (mCB cintD (mCons (mBin addD (mBin mulD (mVar 2) (mC (.int 48271))) (mC (.int 30103))) mNil)) (mC (.int 2147483629))) (mC (.int 1))) (gSubL (mVar 0) (mC (.int 1)))) (sSeq (sIf (mB (mBin ltD (mVar 1) (mBin powD (mC (.int 2)) (mC (.int 40))))) (sRet (mBin modD (mCB cintD (mCons (mBin fdivD (mBin addD (mBin mulD (mVar 2) (mC (.int 2147483647))) (mBin ixD (mVar 0) (mC (.int 1)))) (mC (.int 8191))) mNil)) (mVar 1))) sNx) (sSeq (sSet 3 (mBin mulD (mBin addD (mBin mulD (mVar 2) (mC (.int 2147483647))) (mBin ixD (mVar 0) (mC (.int 1)))) (mBin powD (mC (.int 2147483629)) (mC (.int 3))))) (sRet (mBin modD (mCB cintD (mCons (mBin addD (mBin addD (mVar 3) (mBin mulD (mBin powD (mBin ixD (mVar 0) (mC (.int 1))) (mC (.int 3))) (mC (.int 8191)))) (mVar 2)) mNil)) (mVar 1)))))))))
noncomputable def F_law_take : MF := pt (runF 5 m_law_take)
theorem runT_law_take (x0 x1 : Dt) (st : Sto) (h : clL 0 [x0, x1] = false) : F_law_take [x0, x1] st = trR st (outF (m_law_take [some x0, some x1, none, none, none] st)) := (if_neg (by rw [h]; decide)).trans (congrArg (trR st) (runF_out 5 _ [x0, x1] st))
theorem ok_law_take {f : Addr} {fd : FuncData} (F : Fun K "_law_take" "_law_take" st_law_take f fd) (b_int : mg "int" = none) : FnOk P w K mg base (L2.CX P w) 1 f fd ["_law_box_here", "_law_many"] (spF K B 2 F_law_take) := fn_pt (fn_ok (k := 0) F sc_law_take fun cdv A outer s H E rs hr => (iss_cons (is_if (it_cmp op_gt snd_gt (ie_ix ix_seq snd_ix (ie_var 0) ie_int) ie_int (nomark _)) (iss_cons (is_set 4 sc_law_take.nd (ie_bin op_mod snd_mod (ie_callTy call_int1 snd_int (by rfl) b_int (by decide +kernel) (ia_cons (ie_ix ix_seq snd_ix (ie_var 0) ie_int) ia_nil)) (ie_var 1))) (iss_cons (is_asg (ie_bin op_fdiv snd_fdiv (ie_ix ix_seq snd_ix (ie_var 0) ie_int) (ie_var 1)) (ig_sub (ie_var 0) ie_int) (gSubL_no _ _)) (iss_one (is_ret (ie_var 4))))) iss_nil) (iss_cons (is_asg (ie_bin op_addD snd_add (ie_ix ix_seq snd_ix (ie_var 0) ie_int) ie_int) (ig_sub (ie_var 0) ie_int) (gSubL_no _ _)) (iss_cons (is_set 2 sc_law_take.nd (ie_bin op_mod snd_mod (ie_callTy call_int1 snd_int (by rfl) b_int (by decide +kernel) (ia_cons (ie_bin op_mulD snd_mul (ie_bin op_addD snd_add (ie_ix ix_seq snd_ix (ie_var 0) ie_int) (ie_bin op_mulD snd_mul ie_int (ie_ix ix_seq snd_ix (ie_var 0) ie_int))) ie_int) ia_nil)) ie_int)) (iss_cons (is_asg (ie_bin op_addD snd_add (ie_bin op_mod snd_mod (ie_callTy call_int1 snd_int (by rfl) b_int (by decide +kernel) (ia_cons (ie_bin op_addD snd_add (ie_bin op_mulD snd_mul (ie_var 2) ie_int) ie_int) ia_nil)) ie_int) ie_int) (ig_sub (ie_var 0) ie_int) (gSubL_no _ _)) (iss_cons (is_if (it_cmp op_lt snd_lt (ie_var 1) (ie_bin op_pow snd_pow ie_int ie_int) (nomark _)) (iss_one (is_ret (ie_bin op_mod snd_mod (ie_callTy call_int1 snd_int (by rfl) b_int (by decide +kernel) (ia_cons (ie_bin op_fdiv snd_fdiv (ie_bin op_addD snd_add (ie_bin op_mulD snd_mul (ie_var 2) ie_int) (ie_ix ix_seq snd_ix (ie_var 0) ie_int)) ie_int) ia_nil)) (ie_var 1)))) iss_nil) (iss_cons (is_set 3 sc_law_take.nd (ie_bin op_mulD snd_mul (ie_bin op_addD snd_add (ie_bin op_mulD snd_mul (ie_var 2) ie_int) (ie_ix ix_seq snd_ix (ie_var 0) ie_int)) (ie_bin op_pow snd_pow ie_int ie_int))) (iss_one (is_ret (ie_bin op_mod snd_mod (ie_callTy call_int1 snd_int (by rfl) b_int (by decide +kernel) (ia_cons (ie_bin op_addD snd_add (ie_bin op_addD snd_add (ie_var 3) (ie_bin op_mulD snd_mul (ie_bin op_pow snd_pow (ie_ix ix_seq snd_ix (ie_var 0) ie_int) ie_int) ie_int)) (ie_var 2)) ia_nil)) (ie_var 1)))))))))))
abbrev st_law_pick : Stmt := topS 15
theorem sc_law_pick : FnScope ["_law_box_here", "_law_items"] ["_law_box_here", "_law_items"] (defScope st_law_pick) := ⟨rfl, rfl, rfl, by decide +kernel, rfl, by decide +kernel, by decide +kernel⟩
noncomputable def m_law_pick : MS := (sRet (mBin ixD (mVar 1) (mCall 2 F_law_take (mCons (mVar 0) (mCons (mCB lenD (mCons (mVar 1) mNil)) mNil)) [])))
noncomputable def F_law_pick : MF := pt (runF 2 m_law_pick)
theorem runT_law_pick (x0 x1 : Dt) (st : Sto) (h : clL 0 [x0, x1] = false) : F_law_pick [x0, x1] st = trR st (outF (m_law_pick [some x0, some x1] st)) := (if_neg (by rw [h]; decide)).trans (congrArg (trR st) (runF_out 2 _ [x0, x1] st))
theorem ok_law_pick {f : Addr} {fd : FuncData} (F : Fun K "_law_pick" "_law_pick" st_law_pick f fd) (b_len : mg "len" = none) (D_law_take : DefOk P w K mg base B "_law_take" 1 2 F_law_take []) : FnOk P w K mg base (L2.CX P w) 2 f fd ["_law_box_here", "_law_items"] (spF K B 2 F_law_pick) := fn_pt (fn_ok (k := 1) F sc_law_pick fun cdv A outer s H E rs hr => (iss_one (is_ret (ie_ix ix_seq snd_ix (ie_var 1) (ie_callD D_law_take (hr.mono (by decide)) (takes_of rfl rfl rfl rfl) (ia_cons (ie_var 0) (ia_cons (ie_callB call_lenA snd_len (by rfl) b_len PySem.boot_len (ia_cons (ie_var 1) ia_nil)) ia_nil)))))))
abbrev st_law_value : Stmt := topS 16
theorem sc_law_value : FnScope ["_law_box_here", "_law_some", "_law_turn", "_law_deep"] ["_law_box_here"] (defScope st_law_value) := ⟨rfl, rfl, rfl, by decide +kernel, rfl, by decide +kernel, by decide +kernel⟩
noncomputable def m_law_value : MS := (sSeq (sSet 1 (mLstV (mCons (mC (.int 0)) (mCons (mUn negD (mC (.int 3))) (mCons (mBin powD (mC (.int 10)) (mC (.int 18))) (mCons (mC (.str [])) (mCons (mC (.str [98, 114, 101, 97, 107])) (mCons (mC .non) (mCons (mC (.bl true)) (mCons (mC (.bl false)) (mCons (mLstV mNil) (mCons (mLstV (mCons (mC (.int 1)) (mCons (mC (.str [97])) mNil))) (mCons (mTup (mCons (mC (.str [120])) (mCons (mC .non) mNil))) (mCons (mTup mNil) mNil)))))))))))))) (sSeq (sPar 1 3 (mCons (mBin addD (mVar 1) (mLstV (mCons (mC (.str [97, 98])) (mCons (mC (.int 2)) (mCons (mC (.str [108, 101, 102, 116])) (mCons (mLstV (mCons (mC (.str [120])) mNil)) (mCons (mC (.str [35, 32, 97])) mNil))))))) (mCons (mTup mNil) mNil))) (sSeq (sFor (mRng (mCons (mC (.int 7)) mNil)) (gNm 2) (sSet 3 (mTup (mCons (mVar 3) mNil)))) (sRet (mCall 2 F_law_pick (mCons (mVar 0) (mCons (mBin addD (mVar 1) (mLstV (mCons (mVar 3) mNil))) mNil)) [])))))
noncomputable def F_law_value : MF := pt (runF 4 m_law_value)
theorem runT_law_value (x0 : Dt) (st : Sto) (h : clL 0 [x0] = false) : F_law_value [x0] st = trR st (outF (m_law_value [some x0, none, none, none] st)) := (if_neg (by rw [h]; decide)).trans (congrArg (trR st) (runF_out 4 _ [x0] st))
theorem ok_law_value {f : Addr} {fd : FuncData} (F : Fun K "_law_value" "_law_value" st_law_value f fd) (b_range : mg "range" = none) (D_law_pick : DefOk P w K mg base B "_law_pick" 2 2 F_law_pick []) : FnOk P w K mg base (L2.CX P w) 3 f fd ["_law_box_here"] (spF K B 1 F_law_value) := fn_pt (fn_ok (k := 2) F sc_law_value fun cdv A outer s H E rs hr => (iss_cons (is_set 1 sc_law_value.nd (ie_lstV (ia_cons ie_int (ia_cons (ie_un un_neg snd_neg ie_int) (ia_cons (ie_bin op_pow snd_pow ie_int ie_int) (ia_cons (ie_str (by decide +kernel)) (ia_cons (ie_str (by decide +kernel)) (ia_cons ie_non (ia_cons ie_bl (ia_cons ie_bl (ia_cons (ie_lstV ia_nil) (ia_cons (ie_lstV (ia_cons ie_int (ia_cons (ie_str (by decide +kernel)) ia_nil))) (ia_cons (ie_tup (ia_cons (ie_str (by decide +kernel)) (ia_cons ie_non ia_nil))) (ia_cons (ie_tup ia_nil) ia_nil)))))))))))))) (iss_cons (is_par 1 3 rfl sc_law_value.nd (ia_cons (ie_bin op_addD snd_add (ie_var 1) (ie_lstV (ia_cons (ie_str (by decide +kernel)) (ia_cons ie_int (ia_cons (ie_str (by decide +kernel)) (ia_cons (ie_lstV (ia_cons (ie_str (by decide +kernel)) ia_nil)) (ia_cons (ie_str (by decide +kernel)) ia_nil))))))) (ia_cons (ie_tup ia_nil) ia_nil))) (iss_cons (is_for (passes_of rfl) rfl (ii_range (by rfl) b_range (ia_cons ie_int ia_nil)) (ig_name 2 sc_law_value.nd) (iss_one (is_set 3 sc_law_value.nd (ie_tup (ia_cons (ie_var 3) ia_nil))))) (iss_one (is_ret (ie_callD D_law_pick (hr.mono (by decide)) (takes_of rfl rfl rfl rfl) (ia_cons (ie_var 0) (ia_cons (ie_bin op_addD snd_add (ie_var 1) (ie_lstV (ia_cons (ie_var 3) ia_nil))) ia_nil)))))))))
abbrev st_law_made : Stmt := topS 18
theorem sc_law_made : FnScope ["_law_some", "_law_found"] ["_law_some"] (defScope st_law_made) := ⟨rfl, rfl, rfl, by decide +kernel, rfl, by decide +kernel, by decide +kernel⟩
noncomputable def m_law_made : MS := (sSeq (sSet 1 (mLst (mCons (mMkE 1 0 (mBin ixD (mVar 0) (mC (.int 0)))) (mCons (mMkE 2 1 (mBin ixD (mVar 0) (mC (.int 1)))) (mCons (mMkE 3 1 (mBin ixD (mVar 0) (mC (.int 2)))) (mCons (mMkE 4 2 (mBin ixD (mVar 0) (mC (.int 3)))) mNil)))))) (sSeq (sExpr (mBM isL extendD (mVar 1) (mCons (mLstV (mCons (mMkE 5 1 (mBin ixD (mVar 0) (mC (.int 4)))) (mCons (mMkE 8 0 (mBin ixD (mVar 0) (mC (.int 5)))) (mCons (mMkE 9 1 (mBin ixD (mVar 0) (mC (.int 6)))) (mCons (mMkE 10 1 (mBin ixD (mVar 0) (mC (.int 7)))) mNil))))) mNil))) (sRet (mBin addD (mVar 1) (mLstV (mCons (mMkE0 6) (mCons (mMkE0 7) mNil)))))))
noncomputable def F_law_made : MF := pt (runF 2 m_law_made)
theorem run_law_made (x0 : Dt) (st : Sto) (h : clL 0 [x0] = true) : F_law_made [x0] st = puR st (outF (m_law_made [some x0, none] [])) := (if_pos h).trans (congrArg (puR st) (runF_out 2 _ [x0] []))
theorem runT_law_made (x0 : Dt) (st : Sto) (h : clL 0 [x0] = false) : F_law_made [x0] st = trR st (outF (m_law_made [some x0, none] st)) := (if_neg (by rw [h]; decide)).trans (congrArg (trR st) (runF_out 2 _ [x0] st))
theorem ok_law_made {f : Addr} {fd : FuncData} (F : Fun K "_law_made" "_law_made" st_law_made f fd) (E_InvalidRow : ErrOk P w K mg base B "InvalidRow" "part" 4 2 1) (E_InvalidText : ErrOk P w K mg base B "InvalidText" "at" 3 1 1) (E_InvalidProgram : ErrOk P w K mg base B "InvalidProgram" "at" 2 1 1) (E_InvalidPiece : ErrOk P w K mg base B "InvalidPiece" "word" 1 0 1) (E_NoRow : ErrOk P w K mg base B "NoRow" "at" 10 1 1) (E_NoPiece : ErrOk P w K mg base B "NoPiece" "at" 9 1 1) (E_Refused : ErrOk P w K mg base B "Refused" "word" 8 0 1) (E_InvalidTool : ErrOk P w K mg base B "InvalidTool" "at" 5 1 1) (E0_InvalidCommand : ErrOk0 P w K mg base B "InvalidCommand" 7 1) (E0_InvalidGoal : ErrOk0 P w K mg base B "InvalidGoal" 6 1) : FnOk P w K mg base (L2.CX P w) 3 f fd ["_law_some"] (spF K B 1 F_law_made) := fn_pt (fn_ok (k := 2) F sc_law_made fun cdv A outer s H E rs hr => (iss_cons (is_set 1 sc_law_made.nd (ie_lst (ia_cons (ie_mkE E_InvalidPiece (hr.mono (by decide)) (ie_ix ix_seq snd_ix (ie_var 0) ie_int)) (ia_cons (ie_mkE E_InvalidProgram (hr.mono (by decide)) (ie_ix ix_seq snd_ix (ie_var 0) ie_int)) (ia_cons (ie_mkE E_InvalidText (hr.mono (by decide)) (ie_ix ix_seq snd_ix (ie_var 0) ie_int)) (ia_cons (ie_mkE E_InvalidRow (hr.mono (by decide)) (ie_ix ix_seq snd_ix (ie_var 0) ie_int)) ia_nil)))))) (iss_cons (is_expr (ie_bm PySem.F.plainAttrs_list PySem.F.slot_list_extend PySem.F.type_list_extend mt_extend chk_list snd_extend (ie_var 1) (ia_cons (ie_lstV (ia_cons (ie_mkE E_InvalidTool (hr.mono (by decide)) (ie_ix ix_seq snd_ix (ie_var 0) ie_int)) (ia_cons (ie_mkE E_Refused (hr.mono (by decide)) (ie_ix ix_seq snd_ix (ie_var 0) ie_int)) (ia_cons (ie_mkE E_NoPiece (hr.mono (by decide)) (ie_ix ix_seq snd_ix (ie_var 0) ie_int)) (ia_cons (ie_mkE E_NoRow (hr.mono (by decide)) (ie_ix ix_seq snd_ix (ie_var 0) ie_int)) ia_nil))))) ia_nil))) (iss_one (is_ret (ie_bin op_addD snd_add (ie_var 1) (ie_lstV (ia_cons (ie_mkE0 E0_InvalidGoal (hr.mono (by decide))) (ia_cons (ie_mkE0 E0_InvalidCommand (hr.mono (by decide))) ia_nil)))))))))
def qI_InvalidText : Nat → Option Bool := fun c => List.lookup c [(1, false), (2, false), (3, true), (4, false), (5, false), (6, false), (7, false), (8, false), (9, false), (10, false)]
def qI_InvalidProgram : Nat → Option Bool := fun c => List.lookup c [(1, false), (2, true), (3, false), (4, false), (5, false), (6, false), (7, false), (8, false), (9, false), (10, false)]
def qI_InvalidPiece : Nat → Option Bool := fun c => List.lookup c [(1, true), (2, false), (3, false), (4, false), (5, false), (6, false), (7, false), (8, false), (9, false), (10, false)]
def qI_Refused : Nat → Option Bool := fun c => List.lookup c [(1, false), (2, false), (3, false), (4, false), (5, false), (6, false), (7, false), (8, true), (9, false), (10, false)]
def qI_InvalidTool : Nat → Option Bool := fun c => List.lookup c [(1, false), (2, false), (3, false), (4, false), (5, true), (6, false), (7, false), (8, false), (9, false), (10, false)]
def qI_InvalidRow : Nat → Option Bool := fun c => List.lookup c [(1, false), (2, false), (3, false), (4, true), (5, false), (6, false), (7, false), (8, false), (9, false), (10, false)]
def qI_InvalidGoal : Nat → Option Bool := fun c => List.lookup c [(1, false), (2, false), (3, false), (4, false), (5, false), (6, true), (7, false), (8, false), (9, false), (10, false)]
def qI_NoRow : Nat → Option Bool := fun c => List.lookup c [(1, false), (2, false), (3, false), (4, false), (5, false), (6, false), (7, false), (8, false), (9, false), (10, true)]
def qI_NoPiece : Nat → Option Bool := fun c => List.lookup c [(1, false), (2, false), (3, false), (4, false), (5, false), (6, false), (7, false), (8, false), (9, true), (10, false)]
def qI_InvalidCommand : Nat → Option Bool := fun c => List.lookup c [(1, false), (2, false), (3, false), (4, false), (5, false), (6, false), (7, true), (8, false), (9, false), (10, false)]
abbrev st_law_sorts : Stmt := topS 17
theorem sc_law_sorts : FnScope ["_law_one", "_law_found"] ["_law_one"] (defScope st_law_sorts) := ⟨rfl, rfl, rfl, by decide +kernel, rfl, by decide +kernel, by decide +kernel⟩
noncomputable def m_law_sorts : MS := (sSeq (sSet 1 (mLst (mCons (mIsE qI_InvalidPiece (mVar 0)) (mCons (mIsE qI_InvalidProgram (mVar 0)) (mCons (mIsE qI_InvalidText (mVar 0)) mNil))))) (sSeq (sExpr (mBM isL extendD (mVar 1) (mCons (mLstV (mCons (mIsE qI_InvalidRow (mVar 0)) (mCons (mIsE qI_InvalidTool (mVar 0)) (mCons (mIsE qI_Refused (mVar 0)) mNil)))) mNil))) (sSeq (sExpr (mBM isL extendD (mVar 1) (mCons (mLstV (mCons (mIsE qI_NoPiece (mVar 0)) (mCons (mIsE qI_NoRow (mVar 0)) (mCons (mIsE qI_InvalidGoal (mVar 0)) mNil)))) mNil))) (sRet (mBin addD (mVar 1) (mLstV (mCons (mIsE qI_InvalidCommand (mVar 0)) mNil)))))))
noncomputable def F_law_sorts : MF := pt (runF 2 m_law_sorts)
theorem run_law_sorts (x0 : Dt) (st : Sto) (h : clL 0 [x0] = true) : F_law_sorts [x0] st = puR st (outF (m_law_sorts [some x0, none] [])) := (if_pos h).trans (congrArg (puR st) (runF_out 2 _ [x0] []))
theorem ok_law_sorts {f : Addr} {fd : FuncData} (F : Fun K "_law_sorts" "_law_sorts" st_law_sorts f fd) (b_isinstance : mg "isinstance" = none) (Ie_InvalidText : IsEOk K B (.ref (B.cls 3)) qI_InvalidText) (Mg_InvalidText : mg "InvalidText" = some (.ref (B.cls 3))) (Ie_InvalidProgram : IsEOk K B (.ref (B.cls 2)) qI_InvalidProgram) (Mg_InvalidProgram : mg "InvalidProgram" = some (.ref (B.cls 2))) (Ie_InvalidPiece : IsEOk K B (.ref (B.cls 1)) qI_InvalidPiece) (Mg_InvalidPiece : mg "InvalidPiece" = some (.ref (B.cls 1))) (Ie_Refused : IsEOk K B (.ref (B.cls 8)) qI_Refused) (Mg_Refused : mg "Refused" = some (.ref (B.cls 8))) (Ie_InvalidTool : IsEOk K B (.ref (B.cls 5)) qI_InvalidTool) (Mg_InvalidTool : mg "InvalidTool" = some (.ref (B.cls 5))) (Ie_InvalidRow : IsEOk K B (.ref (B.cls 4)) qI_InvalidRow) (Mg_InvalidRow : mg "InvalidRow" = some (.ref (B.cls 4))) (Ie_InvalidGoal : IsEOk K B (.ref (B.cls 6)) qI_InvalidGoal) (Mg_InvalidGoal : mg "InvalidGoal" = some (.ref (B.cls 6))) (Ie_NoRow : IsEOk K B (.ref (B.cls 10)) qI_NoRow) (Mg_NoRow : mg "NoRow" = some (.ref (B.cls 10))) (Ie_NoPiece : IsEOk K B (.ref (B.cls 9)) qI_NoPiece) (Mg_NoPiece : mg "NoPiece" = some (.ref (B.cls 9))) (Ie_InvalidCommand : IsEOk K B (.ref (B.cls 7)) qI_InvalidCommand) (Mg_InvalidCommand : mg "InvalidCommand" = some (.ref (B.cls 7))) : FnOk P w K mg base (L2.CX P w) 1 f fd ["_law_one"] (spF K B 1 F_law_sorts) := fn_pt (fn_ok (k := 0) F sc_law_sorts fun cdv A outer s H E rs hr => (iss_cons (is_set 1 sc_law_sorts.nd (ie_lst (ia_cons (ie_isE (cv := .ref (B.cls 1)) Ie_InvalidPiece (fun z r => r) b_isinstance (pe_own Mg_InvalidPiece) (ie_var 0)) (ia_cons (ie_isE (cv := .ref (B.cls 2)) Ie_InvalidProgram (fun z r => r) b_isinstance (pe_own Mg_InvalidProgram) (ie_var 0)) (ia_cons (ie_isE (cv := .ref (B.cls 3)) Ie_InvalidText (fun z r => r) b_isinstance (pe_own Mg_InvalidText) (ie_var 0)) ia_nil))))) (iss_cons (is_expr (ie_bm PySem.F.plainAttrs_list PySem.F.slot_list_extend PySem.F.type_list_extend mt_extend chk_list snd_extend (ie_var 1) (ia_cons (ie_lstV (ia_cons (ie_isE (cv := .ref (B.cls 4)) Ie_InvalidRow (fun z r => r) b_isinstance (pe_own Mg_InvalidRow) (ie_var 0)) (ia_cons (ie_isE (cv := .ref (B.cls 5)) Ie_InvalidTool (fun z r => r) b_isinstance (pe_own Mg_InvalidTool) (ie_var 0)) (ia_cons (ie_isE (cv := .ref (B.cls 8)) Ie_Refused (fun z r => r) b_isinstance (pe_own Mg_Refused) (ie_var 0)) ia_nil)))) ia_nil))) (iss_cons (is_expr (ie_bm PySem.F.plainAttrs_list PySem.F.slot_list_extend PySem.F.type_list_extend mt_extend chk_list snd_extend (ie_var 1) (ia_cons (ie_lstV (ia_cons (ie_isE (cv := .ref (B.cls 9)) Ie_NoPiece (fun z r => r) b_isinstance (pe_own Mg_NoPiece) (ie_var 0)) (ia_cons (ie_isE (cv := .ref (B.cls 10)) Ie_NoRow (fun z r => r) b_isinstance (pe_own Mg_NoRow) (ie_var 0)) (ia_cons (ie_isE (cv := .ref (B.cls 6)) Ie_InvalidGoal (fun z r => r) b_isinstance (pe_own Mg_InvalidGoal) (ie_var 0)) ia_nil)))) ia_nil))) (iss_one (is_ret (ie_bin op_addD snd_add (ie_var 1) (ie_lstV (ia_cons (ie_isE (cv := .ref (B.cls 7)) Ie_InvalidCommand (fun z r => r) b_isinstance (pe_own Mg_InvalidCommand) (ie_var 0)) ia_nil)))))))))
def qI_LayError : Nat → Option Bool := fun c => List.lookup c [(1, true), (2, true), (3, true), (4, true), (5, true), (6, true), (7, true), (8, true), (9, true), (10, true)]
def qI_ValueError : Nat → Option Bool := fun c => List.lookup c [(1, true), (2, true), (3, true), (4, true), (5, true), (6, true), (7, true), (8, true), (9, true), (10, true)]
abbrev st_law_held : Stmt := topS 20
theorem sc_law_held : FnScope ["_law_made_here", "_law_found"] ["_law_made_here"] (defScope st_law_held) := ⟨rfl, rfl, rfl, by decide +kernel, rfl, by decide +kernel, by decide +kernel⟩
noncomputable def m_law_held : MS := (sSeq (sSet 1 (mLstV (mCons (mFldE [1, 8] 0 (mBin ixD (mVar 0) (mC (.int 0)))) (mCons (mFldE [2, 3, 5, 9, 10] 1 (mBin ixD (mVar 0) (mC (.int 1)))) (mCons (mFldE [2, 3, 5, 9, 10] 1 (mBin ixD (mVar 0) (mC (.int 2)))) (mCons (mFldE [4] 2 (mBin ixD (mVar 0) (mC (.int 3)))) (mCons (mFldE [2, 3, 5, 9, 10] 1 (mBin ixD (mVar 0) (mC (.int 4)))) (mCons (mFldE [1, 8] 0 (mBin ixD (mVar 0) (mC (.int 5)))) mNil)))))))) (sRet (mBin addD (mVar 1) (mLstV (mCons (mFldE [2, 3, 5, 9, 10] 1 (mBin ixD (mVar 0) (mC (.int 6)))) (mCons (mFldE [2, 3, 5, 9, 10] 1 (mBin ixD (mVar 0) (mC (.int 7)))) mNil))))))
noncomputable def F_law_held : MF := pt (runF 2 m_law_held)
theorem run_law_held (x0 : Dt) (st : Sto) (h : clL 0 [x0] = true) : F_law_held [x0] st = puR st (outF (m_law_held [some x0, none] [])) := (if_pos h).trans (congrArg (puR st) (runF_out 2 _ [x0] []))
theorem runT_law_held (x0 : Dt) (st : Sto) (h : clL 0 [x0] = false) : F_law_held [x0] st = trR st (outF (m_law_held [some x0, none] st)) := (if_neg (by rw [h]; decide)).trans (congrArg (trR st) (runF_out 2 _ [x0] st))
theorem ok_law_held {f : Addr} {fd : FuncData} (F : Fun K "_law_held" "_law_held" st_law_held f fd) (Xf_word : XfOk K B [1, 8] 0 "word") (Xf_at : XfOk K B [2, 3, 5, 9, 10] 1 "at") (Xf_part : XfOk K B [4] 2 "part") : FnOk P w K mg base (L2.CX P w) 1 f fd ["_law_made_here"] (spF K B 1 F_law_held) := fn_pt (fn_ok (k := 0) F sc_law_held fun cdv A outer s H E rs hr => (iss_cons (is_set 1 sc_law_held.nd (ie_lstV (ia_cons (ie_fldE Xf_word (ie_ix ix_seq snd_ix (ie_var 0) ie_int)) (ia_cons (ie_fldE Xf_at (ie_ix ix_seq snd_ix (ie_var 0) ie_int)) (ia_cons (ie_fldE Xf_at (ie_ix ix_seq snd_ix (ie_var 0) ie_int)) (ia_cons (ie_fldE Xf_part (ie_ix ix_seq snd_ix (ie_var 0) ie_int)) (ia_cons (ie_fldE Xf_at (ie_ix ix_seq snd_ix (ie_var 0) ie_int)) (ia_cons (ie_fldE Xf_word (ie_ix ix_seq snd_ix (ie_var 0) ie_int)) ia_nil)))))))) (iss_one (is_ret (ie_bin op_addD snd_add (ie_var 1) (ie_lstV (ia_cons (ie_fldE Xf_at (ie_ix ix_seq snd_ix (ie_var 0) ie_int)) (ia_cons (ie_fldE Xf_at (ie_ix ix_seq snd_ix (ie_var 0) ie_int)) ia_nil))))))))
abbrev st_law_named : Stmt := topS 19
theorem sc_law_named : FnScope ["_law_some", "_law_found"] ["_law_some"] (defScope st_law_named) := ⟨rfl, rfl, rfl, by decide +kernel, rfl, by decide +kernel, by decide +kernel⟩
noncomputable def m_law_named : MS := (sSeq (sSet 1 (mLst (mCons (mMkE 1 0 (mBin ixD (mVar 0) (mC (.int 0)))) (mCons (mMkE 2 1 (mBin ixD (mVar 0) (mC (.int 1)))) (mCons (mMkE 3 1 (mBin ixD (mVar 0) (mC (.int 2)))) mNil))))) (sSeq (sExpr (mBM isL extendD (mVar 1) (mCons (mLstV (mCons (mMkE 4 2 (mBin ixD (mVar 0) (mC (.int 3)))) (mCons (mMkE 5 1 (mBin ixD (mVar 0) (mC (.int 4)))) (mCons (mMkE 8 0 (mBin ixD (mVar 0) (mC (.int 5)))) mNil)))) mNil))) (sRet (mBin addD (mVar 1) (mLstV (mCons (mMkE 9 1 (mBin ixD (mVar 0) (mC (.int 6)))) (mCons (mMkE 10 1 (mBin ixD (mVar 0) (mC (.int 7)))) mNil)))))))
noncomputable def F_law_named : MF := pt (runF 2 m_law_named)
theorem run_law_named (x0 : Dt) (st : Sto) (h : clL 0 [x0] = true) : F_law_named [x0] st = puR st (outF (m_law_named [some x0, none] [])) := (if_pos h).trans (congrArg (puR st) (runF_out 2 _ [x0] []))
theorem runT_law_named (x0 : Dt) (st : Sto) (h : clL 0 [x0] = false) : F_law_named [x0] st = trR st (outF (m_law_named [some x0, none] st)) := (if_neg (by rw [h]; decide)).trans (congrArg (trR st) (runF_out 2 _ [x0] st))
theorem ok_law_named {f : Addr} {fd : FuncData} (F : Fun K "_law_named" "_law_named" st_law_named f fd) (E_InvalidText : ErrOk P w K mg base B "InvalidText" "at" 3 1 1) (EK_InvalidText : ErrKOk P w K mg base B "InvalidText" "at" 3 1 1) (E_InvalidProgram : ErrOk P w K mg base B "InvalidProgram" "at" 2 1 1) (EK_InvalidProgram : ErrKOk P w K mg base B "InvalidProgram" "at" 2 1 1) (E_InvalidPiece : ErrOk P w K mg base B "InvalidPiece" "word" 1 0 1) (EK_InvalidPiece : ErrKOk P w K mg base B "InvalidPiece" "word" 1 0 1) (E_Refused : ErrOk P w K mg base B "Refused" "word" 8 0 1) (EK_Refused : ErrKOk P w K mg base B "Refused" "word" 8 0 1) (E_InvalidTool : ErrOk P w K mg base B "InvalidTool" "at" 5 1 1) (EK_InvalidTool : ErrKOk P w K mg base B "InvalidTool" "at" 5 1 1) (E_InvalidRow : ErrOk P w K mg base B "InvalidRow" "part" 4 2 1) (EK_InvalidRow : ErrKOk P w K mg base B "InvalidRow" "part" 4 2 1) (E_NoRow : ErrOk P w K mg base B "NoRow" "at" 10 1 1) (EK_NoRow : ErrKOk P w K mg base B "NoRow" "at" 10 1 1) (E_NoPiece : ErrOk P w K mg base B "NoPiece" "at" 9 1 1) (EK_NoPiece : ErrKOk P w K mg base B "NoPiece" "at" 9 1 1) : FnOk P w K mg base (L2.CX P w) 3 f fd ["_law_some"] (spF K B 1 F_law_named) := fn_pt (fn_ok (k := 2) F sc_law_named fun cdv A outer s H E rs hr => (iss_cons (is_set 1 sc_law_named.nd (ie_lst (ia_cons (ie_mkEK EK_InvalidPiece (hr.mono (by decide)) (ie_ix ix_seq snd_ix (ie_var 0) ie_int)) (ia_cons (ie_mkEK EK_InvalidProgram (hr.mono (by decide)) (ie_ix ix_seq snd_ix (ie_var 0) ie_int)) (ia_cons (ie_mkEK EK_InvalidText (hr.mono (by decide)) (ie_ix ix_seq snd_ix (ie_var 0) ie_int)) ia_nil))))) (iss_cons (is_expr (ie_bm PySem.F.plainAttrs_list PySem.F.slot_list_extend PySem.F.type_list_extend mt_extend chk_list snd_extend (ie_var 1) (ia_cons (ie_lstV (ia_cons (ie_mkEK EK_InvalidRow (hr.mono (by decide)) (ie_ix ix_seq snd_ix (ie_var 0) ie_int)) (ia_cons (ie_mkEK EK_InvalidTool (hr.mono (by decide)) (ie_ix ix_seq snd_ix (ie_var 0) ie_int)) (ia_cons (ie_mkEK EK_Refused (hr.mono (by decide)) (ie_ix ix_seq snd_ix (ie_var 0) ie_int)) ia_nil)))) ia_nil))) (iss_one (is_ret (ie_bin op_addD snd_add (ie_var 1) (ie_lstV (ia_cons (ie_mkEK EK_NoPiece (hr.mono (by decide)) (ie_ix ix_seq snd_ix (ie_var 0) ie_int)) (ia_cons (ie_mkEK EK_NoRow (hr.mono (by decide)) (ie_ix ix_seq snd_ix (ie_var 0) ie_int)) ia_nil)))))))))
abbrev st_law : Stmt := topS 21
theorem sc_law : FnScope ["_law_script", "_law_k", "_law_box_here", "_law_some", "_law_made_here", "_law_row", "_law_held_here", "_law_spot", "_law_one", "_law_turn", "_law_other"] ["_law_script"] (defScope st_law) := ⟨rfl, rfl, rfl, by decide +kernel, rfl, by decide +kernel, by decide +kernel⟩
noncomputable def m_law : MS := (sSeq (sFor (mRng (mCons (mCB maxD (mCons (mC (.int 1)) (mCons (mCB minD (mCons (mC (.int 3)) (mCons (mCB lenD (mCons (mVar 0) mNil)) mNil))) mNil))) mNil)) (gNm 1) (sSeq (sSet 2 (mCall 3 F_law_box (mCons (mVar 0) (mCons (mVar 1) (mCons (mC (.int 1)) mNil))) [])) (sSeq (sSet 3 (mLcV (mRng (mCons (mC (.int 8)) mNil)) (gNm 9) mYes (mCall 1 F_law_value (mCons (mVar 2) mNil) []) [9])) (sSeq (sSet 4 (mCall 1 F_law_made (mCons (mVar 3) mNil) [])) (sSeq (sFor (mEnumA (mCons (mVar 4) mNil)) (gTp [7, 8]) (sSeq (sIf (mB (mBin neD (mCall 1 F_law_sorts (mCons (mVar 8) mNil) []) (mLcV (mRng (mCons (mC (.int 10)) mNil)) (gNm 10) mYes (mBin eqD (mVar 10) (mVar 7)) [10]))) (sRet (mC (.bl false))) sNx) (sIf (mOr (mNot (mB (mIsE qI_LayError (mVar 8)))) (mNot (mB (mIsE qI_ValueError (mVar 8))))) (sRet (mC (.bl false))) sNx))) (sSeq (sIf (mOr (mB (mBin neD (mCB reprD (mCons (mCall 1 F_law_held (mCons (mVar 4) mNil) []) mNil)) (mCB reprD (mCons (mVar 3) mNil)))) (mB (mBin neD (mCB reprD (mCons (mCall 1 F_law_held (mCons (mCall 1 F_law_named (mCons (mVar 3) mNil) []) mNil) []) mNil)) (mCB reprD (mCons (mVar 3) mNil))))) (sRet (mC (.bl false))) sNx) (sSeq (sSet 5 (mLst (mCons (mC (.int 1)) mNil))) (sSeq (sSet 6 (mCall 1 F_law_made (mCons (mBin mulD (mLstV (mCons (mVar 5) mNil)) (mC (.int 8))) mNil) [])) (sSeq (sIf (mB (mBin neD (mCall 1 F_law_held (mCons (mVar 6) mNil) []) (mBin mulD (mLstV (mCons (mLstV (mCons (mC (.int 1)) mNil)) mNil)) (mC (.int 8))))) (sRet (mC (.bl false))) sNx) (sSeq (sExpr (mBM isL appendD (mVar 5) (mCons (mC (.int 2)) mNil))) (sIf (mB (mBin neD (mCall 1 F_law_held (mCons (mVar 6) mNil) []) (mBin mulD (mLstV (mCons (mLstV (mCons (mC (.int 1)) (mCons (mC (.int 2)) mNil))) mNil)) (mC (.int 8))))) (sRet (mC (.bl false))) sNx))))))))))) (sRet (mC (.bl true))))
noncomputable def F_law : MF := (runF 11 m_law)
theorem run_law (x0 : Dt) (st : Sto) : F_law [x0] st = outF (m_law [some x0, none, none, none, none, none, none, none, none, none, none] st) := runF_out 11 _ [x0] st
theorem ok_law {f : Addr} {fd : FuncData} (F : Fun K "law" "law" st_law f fd) (b_len : mg "len" = none) (b_min : mg "min" = none) (b_max : mg "max" = none) (b_range : mg "range" = none) (D_law_box : DefOk P w K mg base B "_law_box" 1 3 F_law_box []) (D_law_value : DefOk P w K mg base B "_law_value" 3 1 F_law_value []) (D_law_made : DefOk P w K mg base B "_law_made" 3 1 F_law_made []) (b_enumerate : mg "enumerate" = none) (D_law_sorts : DefOk P w K mg base B "_law_sorts" 1 1 F_law_sorts []) (b_isinstance : mg "isinstance" = none) (Ie_LayError : IsEOk K B (.ref (B.cls 0)) qI_LayError) (Mg_LayError : mg "LayError" = some (.ref (B.cls 0))) (Ie_ValueError : IsEOk K B (.type "ValueError") qI_ValueError) (b_ValueError : mg "ValueError" = none) (D_law_held : DefOk P w K mg base B "_law_held" 1 1 F_law_held []) (b_repr : mg "repr" = none) (D_law_named : DefOk P w K mg base B "_law_named" 3 1 F_law_named []) : FnG P w K mg base 4 f fd ["_law_script"] (spF K B 1 F_law) := fn_okG (k := 3) F sc_law fun cdv A outer s H E rs hg hr => (iss_cons (is_for (passes_of rfl) rfl (ii_range (by rfl) b_range (ia_cons (ie_callB (call_max2 rfl) snd_max (by rfl) b_max (by decide +kernel) (ia_cons ie_int (ia_cons (ie_callB (call_min2 rfl) snd_min (by rfl) b_min (by decide +kernel) (ia_cons ie_int (ia_cons (ie_callB call_lenA snd_len (by rfl) b_len PySem.boot_len (ia_cons (ie_var 0) ia_nil)) ia_nil))) ia_nil))) ia_nil)) (ig_name 1 sc_law.nd) (iss_cons (is_set 2 sc_law.nd (ie_callD D_law_box (hr.mono (by decide)) (takes_of rfl rfl rfl rfl) (ia_cons (ie_var 0) (ia_cons (ie_var 1) (ia_cons ie_int ia_nil))))) (iss_cons (is_setLcV 3 rfl sc_law.nd [9] (own := [("_law_turn", 9)]) rfl (gok_name 9) (ii_range (by rfl) b_range (ia_cons ie_int ia_nil)) (blkOk_by (N := ["_law_script", "_law_k", "_law_box_here", "_law_some", "_law_made_here", "_law_row", "_law_held_here", "_law_spot", "_law_one", "_law_turn", "_law_other"]) (sc := defScope st_law) (by decide +kernel)) (fun _ _ _ _ _ => pg_name (i := 9) sc_law.nd rfl (by first | exact Or.inl rfl | exact Or.inr rfl)) (fun _ _ _ _ _ rs => its_nil) (fun _ _ _ _ _ rs => (ie_callD D_law_value (hr.mono (by decide)) takes0 (ia_cons (ie_var 2) ia_nil)))) (iss_cons (is_set 4 sc_law.nd (ie_callD D_law_made (hr.mono (by decide)) (takes_of rfl rfl rfl rfl) (ia_cons (ie_var 3) ia_nil))) (iss_cons (is_for (passes_of rfl) rfl (ii_enumA (by rfl) b_enumerate (ia_cons (ie_var 4) ia_nil)) (ig_tup (n := 2) rfl sc_law.nd (nts 7 (nts 8 .nil)) rfl) (iss_cons (is_if (it_cmp (op_neA hr.units) snd_ne (ie_callD D_law_sorts (hr.mono (by decide)) (takes_of rfl rfl rfl rfl) (ia_cons (ie_var 8) ia_nil)) (ie_lcV rfl sc_law.nd [10] (own := [("_law_other", 10)]) rfl (gok_name 10) (ii_range (by rfl) b_range (ia_cons ie_int ia_nil)) (blkOk_by (N := ["_law_script", "_law_k", "_law_box_here", "_law_some", "_law_made_here", "_law_row", "_law_held_here", "_law_spot", "_law_one", "_law_turn", "_law_other"]) (sc := defScope st_law) (by decide +kernel)) (fun _ _ _ _ _ => pg_name (i := 10) sc_law.nd rfl (by first | exact Or.inl rfl | exact Or.inr rfl)) (fun _ _ _ _ _ rs => its_nil) (fun _ _ _ _ _ rs => (ie_cmp (op_eqA hr.units) snd_eq (ie_var 10) (ie_var 7) (nomark _)))) (nomark _)) (iss_one (is_ret ie_bl)) iss_nil) (iss_one (is_if (it_w (iw_or (it_not (it_val (ie_isE (cv := .ref (B.cls 0)) Ie_LayError (fun z r => r) b_isinstance (pe_own Mg_LayError) (ie_var 8)))) (iw_or1 (it_not (it_val (ie_isE (cv := .ty "ValueError") Ie_ValueError (fun z r => r) b_isinstance (pe_ty b_ValueError) (ie_var 8))))))) (iss_one (is_ret ie_bl)) iss_nil)))) (iss_cons (is_if (it_w (iw_or (it_cmp (op_neA hr.units) snd_ne (ie_callB (call_reprD hg (re_of hr)) snd_repr (by rfl) b_repr (by decide +kernel) (ia_cons (ie_callD D_law_held (hr.mono (by decide)) (takes_of rfl rfl rfl rfl) (ia_cons (ie_var 4) ia_nil)) ia_nil)) (ie_callB (call_reprD hg (re_of hr)) snd_repr (by rfl) b_repr (by decide +kernel) (ia_cons (ie_var 3) ia_nil)) (nomark _)) (iw_or1 (it_cmp (op_neA hr.units) snd_ne (ie_callB (call_reprD hg (re_of hr)) snd_repr (by rfl) b_repr (by decide +kernel) (ia_cons (ie_callD D_law_held (hr.mono (by decide)) (takes_of rfl rfl rfl rfl) (ia_cons (ie_callD D_law_named (hr.mono (by decide)) (takes_of rfl rfl rfl rfl) (ia_cons (ie_var 3) ia_nil)) ia_nil)) ia_nil)) (ie_callB (call_reprD hg (re_of hr)) snd_repr (by rfl) b_repr (by decide +kernel) (ia_cons (ie_var 3) ia_nil)) (nomark _))))) (iss_one (is_ret ie_bl)) iss_nil) (iss_cons (is_set 5 sc_law.nd (ie_lst (ia_cons ie_int ia_nil))) (iss_cons (is_set 6 sc_law.nd (ie_callD D_law_made (hr.mono (by decide)) (takes_of rfl rfl rfl rfl) (ia_cons (ie_bin op_mulD snd_mul (ie_lstV (ia_cons (ie_var 5) ia_nil)) ie_int) ia_nil))) (iss_cons (is_if (it_cmp (op_neA hr.units) snd_ne (ie_callD D_law_held (hr.mono (by decide)) (takes_of rfl rfl rfl rfl) (ia_cons (ie_var 6) ia_nil)) (ie_bin op_mulD snd_mul (ie_lstV (ia_cons (ie_lstV (ia_cons ie_int ia_nil)) ia_nil)) ie_int) (nomark _)) (iss_one (is_ret ie_bl)) iss_nil) (iss_cons (is_expr (ie_bm PySem.F.plainAttrs_list PySem.F.slot_list_append PySem.F.type_list_append mt_append chk_list snd_append (ie_var 5) (ia_cons ie_int ia_nil))) (iss_one (is_if (it_cmp (op_neA hr.units) snd_ne (ie_callD D_law_held (hr.mono (by decide)) (takes_of rfl rfl rfl rfl) (ia_cons (ie_var 6) ia_nil)) (ie_bin op_mulD snd_mul (ie_lstV (ia_cons (ie_lstV (ia_cons ie_int (ia_cons ie_int ia_nil))) ia_nil)) ie_int) (nomark _)) (iss_one (is_ret ie_bl)) iss_nil)))))))))))) (iss_one (is_ret ie_bl)))
end
end Law
set_option Elab.async false
set_option linter.all false
set_option maxRecDepth 100000
set_option maxHeartbeats 1000000
local macro_rules | `(tactic| walk_at "wkst0") => `(tactic| repeat (first | with_reducible refine LT.giv_call ?_ | with_reducible refine LT.giv_cons ?_ | with_reducible refine LT.giv_nil ?_ | with_reducible refine LT.giv_cb ?_ | with_reducible refine LT.giv_bin ?_ | with_reducible refine LT.giv_b ?_ | with_reducible refine LT.giv_ifE ?_ | with_reducible refine LT.giv_tup ?_ | with_reducible refine LT.giv_lstV ?_ | with_reducible refine LT.giv_rng ?_ | with_reducible refine LT.giv_it ?_ | with_reducible refine LT.giv_lcV ?_ | with_reducible refine LT.giv_sl ?_ | with_reducible refine LT.giv_part ?_ | with_reducible refine LT.giv_noPart ?_ | with_reducible refine LT.giv_or ?_ | with_reducible refine LT.giv_and ?_ | with_reducible refine LT.giv_not ?_ | with_reducible refine LT.giv_c ?_ | with_reducible refine LT.giv_addI ?_ | with_reducible refine LT.giv_subI ?_ | with_reducible refine LT.giv_eqI ?_ | with_reducible refine LT.giv_neI ?_ | with_reducible refine LT.giv_eqS ?_ | with_reducible refine LT.giv_neS ?_ | with_reducible refine LT.giv_lenL ?_ | with_reducible refine LT.giv_lenT ?_ | with_reducible refine LT.giv_slL ?_ | with_reducible refine LT.giv_slT ?_ | with_reducible refine LT.giv_tuL ?_ | with_reducible refine LT.giv_tuT ?_ | with_reducible refine LT.giv_liL ?_ | with_reducible refine LT.giv_liT ?_ | with_reducible refine LT.giv_itT ?_ | with_reducible refine LT.giv_itL ?_ | with_reducible refine LT.giv_andE ?_ | with_reducible refine LT.giv_orE ?_ | with_reducible refine LT.giv_notE ?_ | with_reducible refine LT.giv_makeV ?_ | with_reducible refine LT.giv_isI ?_ | with_reducible refine LT.giv_star ?_ | with_reducible refine LT.giv_bm ?_ | with_reducible refine LT.giv_bm0 ?_ | with_reducible refine LT.giv_fldO ?_ | with_reducible refine LT.giv_meth ?_ | with_reducible refine LT.giv_chain ?_ | with_reducible refine LT.giv_leI ?_ | with_reducible refine LT.giv_ltI ?_ | with_reducible refine LT.giv_geI ?_ | with_reducible refine LT.giv_gtI ?_ | with_reducible refine LT.giv_ix0 ?_ | with_reducible refine LT.giv_ix1 ?_ | with_reducible refine LT.giv_ix0L ?_ | with_reducible refine LT.giv_ix1L ?_ | with_reducible refine LT.giv_ix2L ?_ | with_reducible refine LT.giv_lstV ?_ | with_reducible refine LT.ifT ?_ | with_reducible refine LT.ifF ?_ | with_reducible refine LT.ifNT ?_ | with_reducible refine LT.ifNF ?_ | with_reducible refine (Exists.intro _ (And.intro (Eq.refl (LT.Dt.bl _)) ?_)) | with_reducible refine (Exists.intro _ (And.intro (Eq.refl (LT.Dt.int _)) ?_)) | with_reducible refine (Exists.intro _ (And.intro (Eq.refl [LT.Dt.int _]) ?_)) | ((with_reducible refine LT.methG_id ?_); refine LT.methG_i rfl rfl ?_) | ((with_reducible refine LT.fldG_id ?_); refine LT.fldG_i rfl rfl rfl ?_) | ((with_reducible refine LT.isG_id ?_); first | refine LT.isG_t rfl rfl ?_ | refine LT.isG_f rfl rfl ?_) | ((with_reducible refine LT.starG_id ?_); refine LT.starG_i rfl ?_) | ((with_reducible refine LT.giv_varG ?_); refine LT.varG_i rfl ?_) | ((with_reducible refine And.intro ?_ ?_); first | exact rfl | exact Nat.le_of_ble_eq_true rfl)))
namespace Law
open PySem PySem.Spec PyProof.Rows L2 LT
local macro_rules | `(tactic| walk_at "st") => `(tactic| walk_at "wkst0")
local macro_rules | `(tactic| walk_at "lt") => `(tactic| simp only [sSeq, sIf, sRet, sRetN, sNx, sSet, sAsg, gNm, sExpr, sPar, mVar, mC, mBin, mUn, mCons, mNil, mCB, mB, isB, mAnd, mOr, mNot, mAndV, mOrV, mNotV, mIf, mTup, mLst, mLstV, mCall, mKey, mBM, mBM0, mSl, mPart, mNoPart, mIt, mRng, mLcV, mStar, mFld, mMakeV, mMeth, mIsI, mTru, mJoined, mFs, mFmt, mChain, mRevV, mRev, sFor, sRaise, outF, Re.bind, Re.on, List.set, List.getElem?_cons_zero, List.getElem?_cons_succ, if_true, if_false, Bool.false_eq_true, reduceIte, Bool.not_true, Bool.not_false, List.length_nil, List.length_cons, List.append_nil, List.nil_append, List.cons_append, Nat.reduceAdd, Nat.zero_add, lim, Nat.reduceLeDiff, Nat.reduceEqDiff, Option.some.injEq, and_self, and_true, true_and, wipeE, wTup_fuel, wRng_fuel])
theorem take_ok {b : Nat} {st : Sto} {many : Int} (hB : Bq b st) (h1 : 0 < many) (h2 : many < 1073741824) :
    ∃ (r : Int) (st' : Sto), F_law_take [.ref b, .int many] st = .ok (.int r) st' ∧ 0 ≤ r ∧ r < many ∧ Ds [b] (Bq b) st st' := by
  rw [runT_law_take _ _ _ (by simp [clL, clD])]
  suffices hr : Run (m_law_take [some (.ref b), some (.int many), none, none, none] st) (fun _ _ => False) (fun d st2 => (∃ r : Int, d = .int r ∧ 0 ≤ r ∧ r < many) ∧ Xm [b] st st2 ∧ Bq b st2) by
    obtain ⟨d, st', e, ⟨r, rfl, q1, q2⟩, D⟩ := tr_run (bq_src b) hB (fun d ⟨r, hd, _⟩ => by rw [hd]; rfl) hr
    exact ⟨r, st', e, q1, q2, D⟩
  obtain ⟨c, z, n, hb⟩ := hB
  have hl : b < st.length := (List.getElem?_eq_some_iff.mp hb).1
  have mod : ∀ x : Int, 0 ≤ x % many ∧ x % many < many := fun x => ⟨Int.emod_nonneg _ (by omega), Int.emod_lt_of_pos _ h1⟩
  unfold m_law_take
  refine run_seq (run_if ?_)
  walk_at "st"
  refine giv (bq_0 hb) ?_
  walk_at "st"
  by_cases hc : 0 < c
  · rw [decide_eq_true hc]
    walk_at "st"
    refine run_seq (run_set ?_)
    walk_at "st"
    refine giv (bq_0 hb) ?_
    walk_at "st"
    refine giv_cint ?_
    walk_at "st"
    refine giv_modI h1 ?_
    simp only [List.set]
    refine run_seq (run_asg ?_)
    walk_at "st"
    refine giv (bq_0 hb) ?_
    walk_at "st"
    refine giv_fdivI h1 h2 ?_
    refine run_subL rfl rfl (bq_s0 hb) ?_
    refine run_ret ?_
    walk_at "st"
    exact ⟨⟨_, rfl, mod c⟩, Xm.set List.mem_cons_self, _, _, _, List.getElem?_set_self hl⟩
  · rw [decide_eq_false hc]
    walk_at "st"
    refine run_nx ?_
    refine run_seq (run_asg ?_)
    walk_at "st"
    refine giv (bq_2 hb) ?_
    walk_at "st"
    refine run_subL rfl rfl (bq_s2 hb) ?_
    have hb2 := List.getElem?_set_self (a := Ob.lst [.int c, .int z, .int (n + 1)]) hl
    refine run_seq (run_set ?_)
    walk_at "st"
    refine giv (bq_1 hb2) ?_
    walk_at "st"
    refine giv (bq_2 hb2) ?_
    refine giv_mulI (by simp [cMul]) ?_
    walk_at "st"
    refine giv_mulI (by simp [cMul]) ?_
    walk_at "st"
    refine giv_cint ?_
    walk_at "st"
    refine giv_modI (by decide) ?_
    generalize (z + 104729 * (n + 1)) * 69623 % 2147483647 = raw
    simp only [List.set]
    refine run_seq (run_asg ?_)
    walk_at "st"
    refine giv_mulI (by simp [cMul]) ?_
    walk_at "st"
    refine giv_cint ?_
    walk_at "st"
    refine giv_modI (by decide) ?_
    walk_at "st"
    generalize (raw * 48271 + 30103) % 2147483629 + 1 = seed
    refine run_subL rfl rfl (bq_s1 hb2) ?_
    rw [List.set_set]
    have hb3 := List.getElem?_set_self (a := Ob.lst [.int c, .int seed, .int (n + 1)]) hl
    refine run_seq (run_if ?_)
    walk_at "st"
    refine giv (show powD (.int 2) (.int 40) _ = .ok (.int 1099511627776) _ from rfl) ?_
    walk_at "st"
    rw [decide_eq_true (show many < 1099511627776 by omega)]
    walk_at "st"
    refine run_ret ?_
    walk_at "st"
    refine giv_mulI (by simp [cMul]) ?_
    walk_at "st"
    refine giv (bq_1 hb3) ?_
    walk_at "st"
    refine giv_fdivI (by decide) (by decide) ?_
    walk_at "st"
    refine giv_cint ?_
    walk_at "st"
    refine giv_modI h1 ?_
    exact ⟨⟨_, rfl, mod _⟩, Xm.set List.mem_cons_self, _, _, _, hb3⟩
end Law
set_option Elab.async false
set_option linter.all false
set_option maxRecDepth 100000
set_option maxHeartbeats 1000000
namespace Law
open PySem PySem.Spec PyProof.Rows L2 LT
local macro_rules | `(tactic| walk_at "st") => `(tactic| walk_at "wkst0")
local macro_rules | `(tactic| walk_at "lt") => `(tactic| simp only [sSeq, sIf, sRet, sRetN, sNx, sSet, sAsg, gNm, sExpr, sPar, mVar, mC, mBin, mUn, mCons, mNil, mCB, mB, isB, mAnd, mOr, mNot, mAndV, mOrV, mNotV, mIf, mTup, mLst, mLstV, mCall, mKey, mBM, mBM0, mSl, mPart, mNoPart, mIt, mRng, mLcV, mStar, mFld, mMakeV, mMeth, mIsI, mTru, mJoined, mFs, mFmt, mChain, mRevV, mRev, sFor, sRaise, outF, Re.bind, Re.on, List.set, List.getElem?_cons_zero, List.getElem?_cons_succ, if_true, if_false, Bool.false_eq_true, reduceIte, Bool.not_true, Bool.not_false, List.length_nil, List.length_cons, List.append_nil, List.nil_append, List.cons_append, Nat.reduceAdd, Nat.zero_add, lim, Nat.reduceLeDiff, Nat.reduceEqDiff, Option.some.injEq, and_self, and_true, true_and, wipeE, wTup_fuel, wRng_fuel])
theorem giv_lstR {a : MA} {env : Lo} {st : Sto} {P : Dt → Sto → Prop} (h : Giv (a env st) fun xs s => xs.length ≤ lim ∧ P (.ref s.length) (s ++ [.lst xs])) : Giv (mLst a env st) P := giv_bind (h.mono fun xs s q => by
  rw [if_pos q.1]
  exact q.2)
theorem script_at {ns : List Int} {i : Int} {st : Sto} (h0 : 0 ≤ i) (h1 : i < ns.length) : ixD (.rl (ns.map Dt.int)) (.int i) st = .ok (.int (ns[i.toNat]'(by omega))) st := by
  obtain ⟨j, rfl⟩ := Int.eq_ofNat_of_zero_le h0
  have hj : j < ns.length := by omega
  simp only [ixD, seqD]
  have e : atI (ns.map Dt.int) (j : Int) = some (.int ns[j]) := by
    have := ixD_natL (st := st) (xs := ns.map Dt.int) (i := j) (d := .int ns[j]) (by rw [List.getElem?_map, List.getElem?_eq_getElem hj]; rfl)
    simp only [ixD, seqD] at this
    cases ha : atI (ns.map Dt.int) (j : Int) with
    | none => rw [ha] at this; cases this
    | some d => rw [ha] at this; simp only at this; injection this with this; rw [this]
  rw [e]
  rfl
theorem box_ok {ns : List Int} {k own : Int} {st : Sto} (hk : 0 ≤ k) :
    ∃ (b : Nat) (st' : Sto), F_law_box [.rl (ns.map Dt.int), .int k, .int own] st = .ok (.ref b) st' ∧ st.length ≤ b ∧ Xm [] st st' ∧ Bq b st' := by
  rw [run_law_box]
  suffices hr : Run (m_law_box [some (.rl (ns.map Dt.int)), some (.int k), some (.int own), none, none] st) (fun _ _ => False) (fun d st2 => ∃ b, d = .ref b ∧ st.length ≤ b ∧ Xm [] st st2 ∧ Bq b st2) by
    cases hq : m_law_box [some (.rl (ns.map Dt.int)), some (.int k), some (.int own), none, none] st <;> rw [hq] at hr <;> first | exact hr.elim | skip
    obtain ⟨b, rfl, h1, h2, h3⟩ := hr
    exact ⟨b, _, rfl, h1, h2, h3⟩
  unfold m_law_box
  refine run_seq (run_set ?_)
  walk_at "st"
  refine giv_mulI (by simp [cMul]) ?_
  walk_at "st"
  refine giv_mulI (by simp [cMul]) ?_
  walk_at "st"
  simp only [List.set]
  generalize 7727 * k + 104729 * own + 43 = cell
  have rest : ∀ cell : Int, Run ((sSeq (sSet 4 (mBin addD (mBin modD (mCB cintD (mCons (mBin addD (mBin mulD (mBin modD (mCB cintD (mCons (mVar 3) mNil)) (mC (.int 2147483629))) (mC (.int 48271))) (mBin mulD (mC (.int 40692)) (mBin addD (mVar 1) (mBin mulD (mC (.int 11)) (mVar 2))))) mNil)) (mC (.int 2147483629))) (mC (.int 1)))) (sRet (mLst (mCons (mBin ixD (mLst (mCons (mC (.int 0)) (mCons (mVar 3) mNil))) (mCB cintD (mCons (mBin geD (mVar 3) (mBin powD (mC (.int 10)) (mC (.int 18)))) mNil))) (mCons (mVar 4) (mCons (mC (.int 0)) mNil)))))) [some (.rl (ns.map Dt.int)), some (.int k), some (.int own), some (.int cell), none] st) (fun _ _ => False) (fun d st2 => ∃ b, d = .ref b ∧ st.length ≤ b ∧ Xm [] st st2 ∧ Bq b st2) := fun cell => by
    refine run_seq (run_set ?_)
    walk_at "st"
    refine giv_cint ?_
    walk_at "st"
    refine giv_modI (by decide) ?_
    walk_at "st"
    refine giv_mulI (by simp [cMul]) ?_
    walk_at "st"
    refine giv_mulI (by simp [cMul]) ?_
    walk_at "st"
    refine giv_mulI (by simp [cMul]) ?_
    walk_at "st"
    refine giv_cint ?_
    walk_at "st"
    refine giv_modI (by decide) ?_
    walk_at "st"
    generalize (cell % 2147483629 * 48271 + 40692 * (k + 11 * own)) % 2147483629 + 1 = seed
    simp only [List.set]
    refine run_ret ?_
    refine giv_lstR ?_
    walk_at "st"
    refine giv_lstR ?_
    walk_at "st"
    refine giv (show powD (.int 10) (.int 18) _ = .ok (.int 1000000000000000000) _ from rfl) ?_
    walk_at "st"
    have he : (st ++ [Ob.lst [.int 0, .int cell]])[st.length]? = some (.lst [.int 0, .int cell]) := by simp
    have fin : ∀ c : Int, Giv (mCons (mVar 4) (mCons (mC (.int 0)) mNil) [some (.rl (ns.map Dt.int)), some (.int k), some (.int own), some (.int cell), some (.int seed)] (st ++ [Ob.lst [.int 0, .int cell]])) fun xs s2 => (Dt.int c :: xs).length ≤ lim ∧ ∃ b, Dt.ref s2.length = .ref b ∧ st.length ≤ b ∧ Xm [] st (s2 ++ [.lst (Dt.int c :: xs)]) ∧ Bq b (s2 ++ [.lst (Dt.int c :: xs)]) := fun c => by
      walk_at "st"
      refine ⟨_, rfl, by simp, ?_, c, seed, 0, by simp⟩
      exact Xm.app.trans Xm.app
    by_cases hc : (1000000000000000000 : Int) ≤ cell
    · rw [decide_eq_true hc]
      refine giv (show cintD [.bl true] _ = .ok (.int 1) _ from rfl) ?_
      refine giv (show ixD (.ref st.length) (.int 1) _ = .ok (.int cell) _ by simp only [ixD, seqD, he]; rfl) ?_
      exact fin cell
    · rw [decide_eq_false hc]
      refine giv (show cintD [.bl false] _ = .ok (.int 0) _ from rfl) ?_
      refine giv (show ixD (.ref st.length) (.int 0) _ = .ok (.int 0) _ by simp only [ixD, seqD, he]; rfl) ?_
      exact fin 0
  refine run_seq (run_if ?_)
  walk_at "st"
  refine giv (len_any (xs := ns.map Dt.int) rfl) ?_
  walk_at "st"
  rw [List.length_map]
  by_cases hlt : k < ns.length
  · rw [decide_eq_true hlt]
    walk_at "st"
    refine run_set ?_
    walk_at "st"
    refine giv (script_at hk hlt) ?_
    walk_at "st"
    refine giv rfl ?_
    simp only [List.set]
    exact rest _
  · rw [decide_eq_false hlt]
    walk_at "st"
    refine run_if ?_
    walk_at "st"
    refine giv (len_any (xs := ns.map Dt.int) rfl) ?_
    walk_at "st"
    rw [List.length_map]
    by_cases h0 : (0 : Int) < ns.length
    · rw [decide_eq_true h0]
      walk_at "st"
      refine run_set ?_
      walk_at "st"
      refine giv_cint ?_
      walk_at "st"
      refine giv (len_any (xs := ns.map Dt.int) rfl) ?_
      rw [List.length_map]
      refine giv_modI h0 ?_
      refine giv (script_at (Int.emod_nonneg _ (by omega)) (Int.emod_lt_of_pos _ h0)) ?_
      walk_at "st"
      refine giv rfl ?_
      walk_at "st"
      refine giv_cint ?_
      walk_at "st"
      refine giv_modI (by decide) ?_
      walk_at "st"
      refine giv_mulI (by simp [cMul]) ?_
      walk_at "st"
      simp only [List.set]
      exact rest _
    · rw [decide_eq_false h0]
      walk_at "st"
      refine run_nx ?_
      exact rest _
end Law
set_option Elab.async false
set_option linter.all false
set_option maxRecDepth 100000
set_option maxHeartbeats 1000000
namespace Law
open PySem PySem.Spec PyProof.Rows L2 LT
local macro_rules | `(tactic| walk_at "st") => `(tactic| walk_at "wkst0")
local macro_rules | `(tactic| walk_at "lt") => `(tactic| simp only [sSeq, sIf, sRet, sRetN, sNx, sSet, sAsg, gNm, sExpr, sPar, mVar, mC, mBin, mUn, mCons, mNil, mCB, mB, isB, mAnd, mOr, mNot, mAndV, mOrV, mNotV, mIf, mTup, mLst, mLstV, mCall, mKey, mBM, mBM0, mSl, mPart, mNoPart, mIt, mRng, mLcV, mStar, mFld, mMakeV, mMeth, mIsI, mTru, mJoined, mFs, mFmt, mChain, mRevV, mRev, sFor, sRaise, outF, Re.bind, Re.on, List.set, List.getElem?_cons_zero, List.getElem?_cons_succ, if_true, if_false, Bool.false_eq_true, reduceIte, Bool.not_true, Bool.not_false, List.length_nil, List.length_cons, List.append_nil, List.nil_append, List.cons_append, Nat.reduceAdd, Nat.zero_add, lim, Nat.reduceLeDiff, Nat.reduceEqDiff, Option.some.injEq, and_self, and_true, true_and, wipeE, wTup_fuel, wRng_fuel])
theorem pick_ok {b : Nat} {st : Sto} {d : Dt} {xs : List Dt} (hB : Bq b st) (hd : d = .li xs ∨ d = .tup xs) (hc : clL 0 xs = true) (h0 : 0 < xs.length) (hl : xs.length < 1073741824) :
    ∃ (x : Dt) (st' : Sto), F_law_pick [.ref b, d] st = .ok x st' ∧ x ∈ xs ∧ Ds [b] (Bq b) st st' := by
  rw [runT_law_pick _ _ _ (by simp [clL, clD])]
  obtain ⟨r, st1, e1, r0, r1, D1⟩ := take_ok hB (many := (xs.length : Int)) (by omega) (by omega)
  obtain ⟨k, rfl⟩ := Int.eq_ofNat_of_zero_le r0
  have hk : k < xs.length := by omega
  have hlen : lenD [d] st = .ok (.int xs.length) st := by rcases hd with rfl | rfl <;> rfl
  have hix : ixD d (.int (k : Int)) st1 = .ok xs[k] st1 := by
    rcases hd with rfl | rfl
    · exact ixD_natL (List.getElem?_eq_getElem hk)
    · exact ixD_nat (List.getElem?_eq_getElem hk)
  suffices hr : Run (m_law_pick [some (.ref b), some d] st) (fun _ _ => False) (fun d st2 => (d ∈ xs) ∧ Xm [b] st st2 ∧ Bq b st2) by
    exact tr_run (bq_src b) hB (fun d hd => clD_mono (Nat.zero_le _) (clL_mem.mp hc _ hd)) hr
  unfold m_law_pick
  refine run_ret ?_
  walk_at "st"
  refine giv hlen ?_
  walk_at "st"
  refine giv e1 ?_
  refine giv hix ?_
  exact ⟨List.getElem_mem hk, D1.xm, D1.inv⟩
end Law
set_option Elab.async false
set_option linter.all false
set_option maxRecDepth 100000
set_option maxHeartbeats 1000000
local macro_rules | `(tactic| walk_at "wkst1") => `(tactic| repeat (first | with_reducible refine LI.giv_call ?_ | with_reducible refine LI.giv_cons ?_ | with_reducible refine LI.giv_nil ?_ | with_reducible refine LI.giv_cb ?_ | with_reducible refine LI.giv_bin ?_ | with_reducible refine LI.giv_b ?_ | with_reducible refine LI.giv_ifE ?_ | with_reducible refine LI.giv_tup ?_ | with_reducible refine LI.giv_lstV ?_ | with_reducible refine LI.giv_rng ?_ | with_reducible refine LI.giv_it ?_ | with_reducible refine LI.giv_lcV ?_ | with_reducible refine LI.giv_sl ?_ | with_reducible refine LI.giv_part ?_ | with_reducible refine LI.giv_noPart ?_ | with_reducible refine LI.giv_or ?_ | with_reducible refine LI.giv_and ?_ | with_reducible refine LI.giv_not ?_ | with_reducible refine LI.giv_c ?_ | with_reducible refine LI.giv_addI ?_ | with_reducible refine LI.giv_subI ?_ | with_reducible refine LI.giv_eqI ?_ | with_reducible refine LI.giv_neI ?_ | with_reducible refine LI.giv_eqS ?_ | with_reducible refine LI.giv_neS ?_ | with_reducible refine LI.giv_lenL ?_ | with_reducible refine LI.giv_lenT ?_ | with_reducible refine LI.giv_slL ?_ | with_reducible refine LI.giv_slT ?_ | with_reducible refine LI.giv_tuL ?_ | with_reducible refine LI.giv_tuT ?_ | with_reducible refine LI.giv_liL ?_ | with_reducible refine LI.giv_liT ?_ | with_reducible refine LI.giv_itT ?_ | with_reducible refine LI.giv_itL ?_ | with_reducible refine LI.giv_andE ?_ | with_reducible refine LI.giv_orE ?_ | with_reducible refine LI.giv_notE ?_ | with_reducible refine LI.giv_makeV ?_ | with_reducible refine LI.giv_isI ?_ | with_reducible refine LI.giv_star ?_ | with_reducible refine LI.giv_bm ?_ | with_reducible refine LI.giv_bm0 ?_ | with_reducible refine LI.giv_fldA ?_ | with_reducible refine LI.giv_meth ?_ | with_reducible refine LI.giv_chain ?_ | with_reducible refine LI.giv_leI ?_ | with_reducible refine LI.giv_ltI ?_ | with_reducible refine LI.giv_geI ?_ | with_reducible refine LI.giv_gtI ?_ | with_reducible refine LI.giv_ix0 ?_ | with_reducible refine LI.giv_ix1 ?_ | with_reducible refine LI.giv_ix0L ?_ | with_reducible refine LI.giv_ix1L ?_ | with_reducible refine LI.giv_ix2L ?_ | with_reducible refine LI.giv_lstV ?_ | with_reducible refine LT.ifT ?_ | with_reducible refine LT.ifF ?_ | with_reducible refine LT.ifNT ?_ | with_reducible refine LT.ifNF ?_ | with_reducible refine (Exists.intro _ (And.intro (Eq.refl (LT.Dt.bl _)) ?_)) | with_reducible refine (Exists.intro _ (And.intro (Eq.refl (LT.Dt.int _)) ?_)) | with_reducible refine (Exists.intro _ (And.intro (Eq.refl [LT.Dt.int _]) ?_)) | ((with_reducible refine LT.methG_id ?_); refine LT.methG_i rfl rfl ?_) | ((with_reducible refine LT.fldA_id ?_); refine LT.fldA_i rfl rfl rfl ?_) | ((with_reducible refine LT.isG_id ?_); first | refine LT.isG_t rfl rfl ?_ | refine LT.isG_f rfl rfl ?_) | ((with_reducible refine LT.starG_id ?_); refine LT.starG_i rfl ?_) | ((with_reducible refine LI.giv_varG ?_); refine LT.varG_i rfl ?_) | ((with_reducible refine And.intro ?_ ?_); first | exact rfl | exact Nat.le_of_ble_eq_true rfl)))
namespace Law
open PySem PySem.Spec PyProof.Rows L2
open LT hiding Giv Run giv giv_bind run_nx run_seq run_set run_expr run_ret run_retN run_if run_ifT run_ifF run_par run_asg run_for run_forT run_forR run_while giv_out giv_call giv_callD giv_cons giv_nil giv_cb giv_bin giv_b giv_ifE giv_tup giv_lstV giv_or giv_and giv_not giv_rng giv_it giv_lcV giv_sl giv_part giv_noPart giv_var giv_varG giv_c giv_addI giv_subI giv_eqI giv_neI giv_eqS giv_neS giv_addS giv_addL giv_addT giv_lenL giv_lenT giv_slL giv_slT giv_tuL giv_tuT giv_liL giv_liT giv_itT giv_itL giv_andE giv_orE giv_notE giv_makeV giv_fldO giv_isI giv_star giv_slS giv_lenS giv_inT giv_inL giv_joinT giv_joinL giv_fmt giv_joined giv_fsN giv_fsC giv_ixT giv_ixL giv_ix0 giv_ix1 giv_ix2 giv_ix0L giv_ix1L giv_ix2L giv_meth giv_chain giv_leI giv_ltI giv_geI giv_gtI giv_strO run_aug giv_bm giv_bm0 giv_lcGo giv_lcMap giv_lcMapT giv_all run_fldSet giv_lcRef giv_lcAny run_subL giv_mulI giv_modI giv_fdivI giv_cint giv_lcStr giv_itS giv_fldA giv_ixO giv_split giv_cm giv_makeL giv_rng2 run_match run_par3 giv_listS giv_pairsN giv_pairsC giv_disp giv_upd run_keySet run_gTp2 giv_makeN giv_dd giv_makeK giv_methK giv_prop run_forL run_whileL tr_run tr_add out_of pu_eq
open LI
local macro_rules | `(tactic| walk_at "st") => `(tactic| walk_at "wkst1")
local macro_rules | `(tactic| walk_at "lt") => `(tactic| simp only [sSeq, sIf, sRet, sRetN, sNx, sSet, sAsg, gNm, sExpr, sPar, mVar, mC, mBin, mUn, mCons, mNil, mCB, mB, isB, mAnd, mOr, mNot, mAndV, mOrV, mNotV, mIf, mTup, mLst, mLstV, mCall, mKey, mBM, mBM0, mSl, mPart, mNoPart, mIt, mRng, mLcV, mStar, mFld, mMakeV, mMeth, mIsI, mTru, mJoined, mFs, mFmt, mChain, mRevV, mRev, sFor, sRaise, outF, Re.bind, Re.on, List.set, List.getElem?_cons_zero, List.getElem?_cons_succ, if_true, if_false, Bool.false_eq_true, reduceIte, Bool.not_true, Bool.not_false, List.length_nil, List.length_cons, List.append_nil, List.nil_append, List.cons_append, Nat.reduceAdd, Nat.zero_add, lim, Nat.reduceLeDiff, Nat.reduceEqDiff, Option.some.injEq, and_self, and_true, true_and, wipeE, wTup_fuel, wRng_fuel])
theorem giv_lstI {a : MA} {env : Lo} {st : Sto} {P : Dt → Sto → Prop} (h : Giv (a env st) fun xs s => xs.length ≤ lim ∧ P (.ref s.length) (s ++ [.lst xs])) : Giv (mLst a env st) P :=
  giv_bind (h.mono fun xs s q => giv (a := .ref s.length) (s := s ++ [.lst xs]) (by rw [if_pos q.1]) q.2)
section
variable {env : Lo} {st : Sto} {P : Dt → Sto → Prop}
theorem giv_me {c k i : Nat} {d : Dt} {vs : List Dt} {j : Int} (h : env[0]? = some (some (.li vs))) (hi : ixD (.li vs) (.int j) st = .ok d st) (q : P (.er c [(k, d)]) st) (hj : j = (i : Int) := by rfl) : Giv (mMkE c k (mBin ixD (mVar 0) (mC (.int j))) env st) P :=
  giv_bind (giv_bin (giv_var h (giv_c (giv hi (giv rfl q)))))
theorem giv_me0 {c : Nat} (q : P (.er c []) st) : Giv (mMkE0 c env st) P := giv rfl q
theorem giv_fe {cs : List Nat} {c k i : Nat} {d : Dt} {fs : List (Nat × Dt)} {vs : List Dt} {j : Int} (h : env[0]? = some (some (.li vs))) (hi : ixD (.li vs) (.int j) st = .ok (.er c fs) st) (hc : cs.contains c = true) (hl : fs.lookup k = some d) (q : P d st) (hj : j = (i : Int) := by rfl) : Giv (mFldE cs k (mBin ixD (mVar 0) (mC (.int j))) env st) P :=
  giv_bind (giv_bin (giv_var h (giv_c (giv hi (giv (a := d) (s := st) (by simp only [hc, if_true, hl]) q)))))
theorem ext_at {st : Sto} {xs ys : List Dt} (hl : xs.length + ys.length ≤ 1000000) : extendD (.ref st.length) [.li ys] (st ++ [.lst xs]) = .ok .non (st ++ [.lst (xs ++ ys)]) := by
  have h : (st ++ [Ob.lst xs])[st.length]? = some (.lst xs) := by rw [List.getElem?_append_right (Nat.le_refl _), Nat.sub_self]; rfl
  simp only [extendD, h, lsD]
  rw [if_pos (show _ ≤ lim from hl), List.set_append_right _ _ (Nat.le_refl _), Nat.sub_self]
  rfl
theorem chk_at {st : Sto} {xs : List Dt} : isL (.ref st.length) (st ++ [.lst xs]) = true := by
  have h : (st ++ [Ob.lst xs])[st.length]? = some (.lst xs) := by rw [List.getElem?_append_right (Nat.le_refl _), Nat.sub_self]; rfl
  simp only [isL, lstD, h]
  rfl
theorem add_at {st : Sto} {xs ys : List Dt} (hl : xs.length + ys.length ≤ 1000000) : addD (.ref st.length) (.li ys) (st ++ [.lst xs]) = .ok (.li (xs ++ ys)) (st ++ [.lst xs]) := by
  have h : (st ++ [Ob.lst xs])[st.length]? = some (.lst xs) := by rw [List.getElem?_append_right (Nat.le_refl _), Nat.sub_self]; rfl
  simp only [addD, lsD, h]
  rw [if_pos (show _ ≤ lim from hl)]
end
abbrev ersN (v0 v1 v2 v3 v4 v5 v6 v7 : Dt) : List Dt := [.er 1 [(0, v0)], .er 2 [(1, v1)], .er 3 [(1, v2)], .er 4 [(2, v3)], .er 5 [(1, v4)], .er 8 [(0, v5)], .er 9 [(1, v6)], .er 10 [(1, v7)]]
abbrev ersA (v0 v1 v2 v3 v4 v5 v6 v7 : Dt) : List Dt := ersN v0 v1 v2 v3 v4 v5 v6 v7 ++ [.er 6 [], .er 7 []]
section
variable {v0 v1 v2 v3 v4 v5 v6 v7 : Dt}
theorem made_core (st : Sto) : LI.Run (m_law_made [some (.li [v0, v1, v2, v3, v4, v5, v6, v7]), none] st) (fun _ _ => False) (fun d s => d = .li (ersA v0 v1 v2 v3 v4 v5 v6 v7) ∧ ∃ g, s = st ++ g) := by
  unfold m_law_made
  refine run_seq (run_set (giv_lstI (giv_cons (giv_me (i := 0) rfl rfl (giv_cons (giv_me (i := 1) rfl rfl (giv_cons (giv_me (i := 2) rfl rfl (giv_cons (giv_me (i := 3) rfl rfl (giv_nil ⟨Nat.le_of_ble_eq_true rfl, ?_⟩)))))))))))
  simp only [List.set]
  refine run_seq (run_expr (giv_bm (giv_var rfl ⟨chk_at, giv_cons (giv_lstV (giv_cons (giv_me (i := 4) rfl rfl (giv_cons (giv_me (i := 5) rfl rfl (giv_cons (giv_me (i := 6) rfl rfl (giv_cons (giv_me (i := 7) rfl rfl (giv_nil ⟨Nat.le_of_ble_eq_true rfl, giv_nil (giv (ext_at (Nat.le_of_ble_eq_true rfl)) ?_)⟩))))))))))⟩)))
  refine run_ret (giv_bin (giv_var rfl (giv_lstV (giv_cons (giv_me0 (giv_cons (giv_me0 (giv_nil ⟨Nat.le_of_ble_eq_true rfl, giv (add_at (Nat.le_of_ble_eq_true rfl)) ⟨rfl, _, rfl⟩⟩))))))))
theorem named_core (st : Sto) : LI.Run (m_law_named [some (.li [v0, v1, v2, v3, v4, v5, v6, v7]), none] st) (fun _ _ => False) (fun d s => d = .li (ersN v0 v1 v2 v3 v4 v5 v6 v7) ∧ ∃ g, s = st ++ g) := by
  unfold m_law_named
  refine run_seq (run_set (giv_lstI (giv_cons (giv_me (i := 0) rfl rfl (giv_cons (giv_me (i := 1) rfl rfl (giv_cons (giv_me (i := 2) rfl rfl (giv_nil ⟨Nat.le_of_ble_eq_true rfl, ?_⟩)))))))))
  simp only [List.set]
  refine run_seq (run_expr (giv_bm (giv_var rfl ⟨chk_at, giv_cons (giv_lstV (giv_cons (giv_me (i := 3) rfl rfl (giv_cons (giv_me (i := 4) rfl rfl (giv_cons (giv_me (i := 5) rfl rfl (giv_nil ⟨Nat.le_of_ble_eq_true rfl, giv_nil (giv (ext_at (Nat.le_of_ble_eq_true rfl)) ?_)⟩))))))))⟩)))
  refine run_ret (giv_bin (giv_var rfl (giv_lstV (giv_cons (giv_me (i := 6) rfl rfl (giv_cons (giv_me (i := 7) rfl rfl (giv_nil ⟨Nat.le_of_ble_eq_true rfl, giv (add_at (Nat.le_of_ble_eq_true rfl)) ⟨rfl, _, rfl⟩⟩))))))))
theorem heldA_core (st : Sto) : LI.Run (m_law_held [some (.li (ersA v0 v1 v2 v3 v4 v5 v6 v7)), none] st) (fun _ _ => False) (fun d s => d = .li [v0, v1, v2, v3, v4, v5, v6, v7] ∧ ∃ g, s = st ++ g) := by
  unfold m_law_held
  refine run_seq (run_set (giv_lstV (giv_cons (giv_fe (c := 1) (i := 0) rfl rfl rfl rfl (giv_cons (giv_fe (c := 2) (i := 1) rfl rfl rfl rfl (giv_cons (giv_fe (c := 3) (i := 2) rfl rfl rfl rfl (giv_cons (giv_fe (c := 4) (i := 3) rfl rfl rfl rfl (giv_cons (giv_fe (c := 5) (i := 4) rfl rfl rfl rfl (giv_cons (giv_fe (c := 8) (i := 5) rfl rfl rfl rfl (giv_nil ⟨Nat.le_of_ble_eq_true rfl, ?_⟩)))))))))))))))
  simp only [List.set]
  exact run_ret (giv_bin (giv_var rfl (giv_lstV (giv_cons (giv_fe (c := 9) (i := 6) rfl rfl rfl rfl (giv_cons (giv_fe (c := 10) (i := 7) rfl rfl rfl rfl (giv_nil ⟨Nat.le_of_ble_eq_true rfl, giv_addL (Nat.le_of_ble_eq_true rfl) ⟨rfl, [], (List.append_nil _).symm⟩⟩))))))))
theorem heldN_core (st : Sto) : LI.Run (m_law_held [some (.li (ersN v0 v1 v2 v3 v4 v5 v6 v7)), none] st) (fun _ _ => False) (fun d s => d = .li [v0, v1, v2, v3, v4, v5, v6, v7] ∧ ∃ g, s = st ++ g) := by
  unfold m_law_held
  refine run_seq (run_set (giv_lstV (giv_cons (giv_fe (c := 1) (i := 0) rfl rfl rfl rfl (giv_cons (giv_fe (c := 2) (i := 1) rfl rfl rfl rfl (giv_cons (giv_fe (c := 3) (i := 2) rfl rfl rfl rfl (giv_cons (giv_fe (c := 4) (i := 3) rfl rfl rfl rfl (giv_cons (giv_fe (c := 5) (i := 4) rfl rfl rfl rfl (giv_cons (giv_fe (c := 8) (i := 5) rfl rfl rfl rfl (giv_nil ⟨Nat.le_of_ble_eq_true rfl, ?_⟩)))))))))))))))
  simp only [List.set]
  exact run_ret (giv_bin (giv_var rfl (giv_lstV (giv_cons (giv_fe (c := 9) (i := 6) rfl rfl rfl rfl (giv_cons (giv_fe (c := 10) (i := 7) rfl rfl rfl rfl (giv_nil ⟨Nat.le_of_ble_eq_true rfl, giv_addL (Nat.le_of_ble_eq_true rfl) ⟨rfl, [], (List.append_nil _).symm⟩⟩))))))))
theorem both {n : Nat} {m : MS} {x d : Dt} {st : Sto} (hx : clD st.length x = true) (hd : clD st.length d = true) (h0 : clD 0 x = true → clD 0 d = true) (core : ∀ st : Sto, LI.Run (m [some x, none] st) (fun _ _ => False) (fun d' s => d' = d ∧ ∃ g, s = st ++ g)) {F : MF}
    (hp : clL 0 [x] = true → F [x] st = puR st (outF (m [some x, none] []))) (ht : clL 0 [x] = false → F [x] st = trR st (outF (m [some x, none] st))) : F [x] st = .ok d st := by
  cases hc : clL 0 [x] with
  | true =>
    have hc0 : clD 0 x = true := by simpa only [clL, Bool.and_true] using hc
    rw [hp hc]
    exact pu_eq ((core []).mono (fun _ _ z => z.elim) fun d' s ⟨e, _⟩ => by rw [e]; exact puR_ok (h0 hc0))
  | false =>
    rw [ht hc]
    exact tr_add hd (core st)
end
end Law
set_option Elab.async false
set_option linter.all false
set_option maxRecDepth 100000
set_option maxHeartbeats 1000000
namespace Law
open PySem PySem.Spec PyProof.Rows L2
open LT hiding Giv Run giv giv_bind run_nx run_seq run_set run_expr run_ret run_retN run_if run_ifT run_ifF run_par run_asg run_for run_forT run_forR run_while giv_out giv_call giv_callD giv_cons giv_nil giv_cb giv_bin giv_b giv_ifE giv_tup giv_lstV giv_or giv_and giv_not giv_rng giv_it giv_lcV giv_sl giv_part giv_noPart giv_var giv_varG giv_c giv_addI giv_subI giv_eqI giv_neI giv_eqS giv_neS giv_addS giv_addL giv_addT giv_lenL giv_lenT giv_slL giv_slT giv_tuL giv_tuT giv_liL giv_liT giv_itT giv_itL giv_andE giv_orE giv_notE giv_makeV giv_fldO giv_isI giv_star giv_slS giv_lenS giv_inT giv_inL giv_joinT giv_joinL giv_fmt giv_joined giv_fsN giv_fsC giv_ixT giv_ixL giv_ix0 giv_ix1 giv_ix2 giv_ix0L giv_ix1L giv_ix2L giv_meth giv_chain giv_leI giv_ltI giv_geI giv_gtI giv_strO run_aug giv_bm giv_bm0 giv_lcGo giv_lcMap giv_lcMapT giv_all run_fldSet giv_lcRef giv_lcAny run_subL giv_mulI giv_modI giv_fdivI giv_cint giv_lcStr giv_itS giv_fldA giv_ixO giv_split giv_cm giv_makeL giv_rng2 run_match run_par3 giv_listS giv_pairsN giv_pairsC giv_disp giv_upd run_keySet run_gTp2 giv_makeN giv_dd giv_makeK giv_methK giv_prop run_forL run_whileL tr_run tr_add out_of pu_eq
open LI
local macro_rules | `(tactic| walk_at "st") => `(tactic| walk_at "wkst1")
local macro_rules | `(tactic| walk_at "lt") => `(tactic| simp only [sSeq, sIf, sRet, sRetN, sNx, sSet, sAsg, gNm, sExpr, sPar, mVar, mC, mBin, mUn, mCons, mNil, mCB, mB, isB, mAnd, mOr, mNot, mAndV, mOrV, mNotV, mIf, mTup, mLst, mLstV, mCall, mKey, mBM, mBM0, mSl, mPart, mNoPart, mIt, mRng, mLcV, mStar, mFld, mMakeV, mMeth, mIsI, mTru, mJoined, mFs, mFmt, mChain, mRevV, mRev, sFor, sRaise, outF, Re.bind, Re.on, List.set, List.getElem?_cons_zero, List.getElem?_cons_succ, if_true, if_false, Bool.false_eq_true, reduceIte, Bool.not_true, Bool.not_false, List.length_nil, List.length_cons, List.append_nil, List.nil_append, List.cons_append, Nat.reduceAdd, Nat.zero_add, lim, Nat.reduceLeDiff, Nat.reduceEqDiff, Option.some.injEq, and_self, and_true, true_and, wipeE, wTup_fuel, wRng_fuel])
def nestT : Nat → Dt
  | 0 => .tup []
  | n + 1 => .tup [nestT n]
abbrev oddL : List Dt := [.int 0, .int (-3), .int 1000000000000000000, .str [], .str [98, 114, 101, 97, 107], .non, .bl true, .bl false, .li [], .li [.int 1, .str [97]], .tup [.str [120], .non], .tup [], .str [97, 98], .int 2, .str [108, 101, 102, 116], .li [.str [120]], .str [35, 32, 97], nestT 7]

theorem cl_odd {d : Dt} (h : d ∈ oddL) (n : Nat) : clD n d = true := by
  simp only [oddL, List.mem_cons, List.not_mem_nil, or_false] at h
  rcases h with rfl | rfl | rfl | rfl | rfl | rfl | rfl | rfl | rfl | rfl | rfl | rfl | rfl | rfl | rfl | rfl | rfl | rfl <;> rfl
theorem odd_shown {d : Dt} (h : d ∈ oddL) : okD 37 d = true ∧ shD d = true ∧ wD d ≤ 5000 := by
  simp only [oddL, List.mem_cons, List.not_mem_nil, or_false] at h
  rcases h with rfl | rfl | rfl | rfl | rfl | rfl | rfl | rfl | rfl | rfl | rfl | rfl | rfl | rfl | rfl | rfl | rfl | rfl <;> exact ⟨by decide, by decide, by decide⟩

theorem value_ok {b : Nat} {st : Sto} (hB : Bq b st) : ∃ v st', F_law_value [.ref b] st = .ok v st' ∧ v ∈ oddL ∧ Ds [b] (Bq b) st st' := by
  rw [runT_law_value _ _ (by simp [clL, clD])]
  suffices hr : LI.Run (m_law_value [some (.ref b), none, none, none] st) (fun _ _ => False) (fun d st2 => d ∈ oddL ∧ Xm [b] st st2 ∧ Bq b st2) by
    obtain ⟨d, st', e, h1, D⟩ := tr_run (bq_src b) hB (fun d hd => cl_odd hd _) hr
    exact ⟨d, st', e, h1, D⟩
  unfold m_law_value
  refine run_seq (run_set ?_)
  walk_at "st"
  refine giv (a := .int (-3)) rfl ?_
  walk_at "st"
  refine giv (show powD (.int 10) (.int 18) _ = .ok (.int 1000000000000000000) _ from rfl) ?_
  walk_at "st"
  simp only [List.set]
  refine run_seq (LI.run_parI ?_)
  walk_at "st"
  refine giv (a := .li [.int 0, .int (-3), .int 1000000000000000000, .str [], .str [98, 114, 101, 97, 107], .non, .bl true, .bl false, .li [], .li [.int 1, .str [97]], .tup [.str [120], .non], .tup [], .str [97, 98], .int 2, .str [108, 101, 102, 116], .li [.str [120]], .str [35, 32, 97]]) rfl ?_
  walk_at "st"
  refine ⟨_, _, rfl, ?_⟩
  simp only [List.set]
  refine run_seq (run_for ?_)
  walk_at "st"
  refine ⟨by omega, by omega, ?_⟩
  refine run_forR 7 (fun i e s => ∃ x2, e = [some (.ref b), some (.li [.int 0, .int (-3), .int 1000000000000000000, .str [], .str [98, 114, 101, 97, 107], .non, .bl true, .bl false, .li [], .li [.int 1, .str [97]], .tup [.str [120], .non], .tup [], .str [97, 98], .int 2, .str [108, 101, 102, 116], .li [.str [120]], .str [35, 32, 97]]), x2, some (nestT i)] ∧ s = st) ⟨none, rfl, rfl⟩ ?_ ?_
  · rintro i e s hi ⟨x2, rfl, rfl⟩
    refine ⟨_, s, rfl, ?_⟩
    simp only [List.set]
    refine run_set ?_
    walk_at "st"
    exact ⟨_, rfl, rfl⟩
  · rintro e s ⟨x2, rfl, rfl⟩
    refine run_ret ?_
    walk_at "st"
    refine giv (a := .li oddL) rfl ?_
    walk_at "st"
    obtain ⟨x, s4, e4, hx, D4⟩ := pick_ok hB (.inl rfl) (clL_mem.mpr fun x hx => cl_odd hx _) (by simp) (by simp)
    exact giv e4 ⟨hx, D4.xm, D4.inv⟩

theorem enum_any {d : Dt} {xs : List Dt} (hd : d = .tup xs ∨ d = .li xs) : ∃ w : Wk, (∀ s, enumA [d] s = .ok w s) ∧ w.fuel = xs.length + 1 ∧ (∀ s, w.turn xs.length s = .stop) ∧ ∀ i s (hi : i < xs.length), w.turn i s = .item (.tup [.int (i : Nat), xs[i]]) := by
  rcases hd with rfl | rfl
  · refine ⟨wEnumT xs, fun s => rfl, rfl, fun s => ?_, fun i s hi => ?_⟩
    · show (match xs[xs.length]? with | some d => Tn.item (.tup [.int (xs.length : Nat), d]) | none => if xs.length = xs.length then .stop else .stuck) = _
      rw [List.getElem?_eq_none (Nat.le_refl _)]
      simp
    · show (match xs[i]? with | some d => Tn.item (.tup [.int (i : Nat), d]) | none => if i = xs.length then .stop else .stuck) = _
      rw [List.getElem?_eq_getElem hi]
  · refine ⟨wEnum (wTup xs), fun s => rfl, rfl, fun s => ?_, fun i s hi => ?_⟩
    · show (match (wTup xs).turn xs.length s with | .item a => Tn.item (.tup [.int (xs.length : Nat), a]) | .stuck => .stuck | .stop => .stop) = _
      rw [wTup_stop]
    · show (match (wTup xs).turn i s with | .item a => Tn.item (.tup [.int (i : Nat), a]) | .stuck => .stuck | .stop => .stop) = _
      rw [wTup_item (List.getElem?_eq_getElem hi)]
theorem giv_enum {a : MA} {env : Lo} {st : Sto} {PW : Wk → Sto → Prop} (h : Giv (a env st) fun xs s => Giv (enumA xs s) PW) : Giv (mEnumA a env st) PW := giv_bind h

theorem cl_ers {n : Nat} {v0 v1 v2 v3 v4 v5 v6 v7 : Dt} (h : clL n [v0, v1, v2, v3, v4, v5, v6, v7] = true) : clL n (ersA v0 v1 v2 v3 v4 v5 v6 v7) = true ∧ clL n (ersN v0 v1 v2 v3 v4 v5 v6 v7) = true := by
  simp only [ersA, ersN, List.cons_append, List.nil_append, clL, clD, clF, Bool.and_true, Bool.and_eq_true] at h ⊢
  exact ⟨h, h⟩
section
variable {v0 v1 v2 v3 v4 v5 v6 v7 : Dt} {st : Sto}
theorem made_ok (h : clL st.length [v0, v1, v2, v3, v4, v5, v6, v7] = true) : F_law_made [.li [v0, v1, v2, v3, v4, v5, v6, v7]] st = .ok (.li (ersA v0 v1 v2 v3 v4 v5 v6 v7)) st :=
  both (n := 0) (m := m_law_made) (x := .li [v0, v1, v2, v3, v4, v5, v6, v7]) (by rw [clD]; exact h) (by rw [clD]; exact (cl_ers h).1) (fun z => by rw [clD] at z ⊢; exact (cl_ers z).1) made_core (run_law_made _ _) (runT_law_made _ _)
theorem named_ok (h : clL st.length [v0, v1, v2, v3, v4, v5, v6, v7] = true) : F_law_named [.li [v0, v1, v2, v3, v4, v5, v6, v7]] st = .ok (.li (ersN v0 v1 v2 v3 v4 v5 v6 v7)) st :=
  both (n := 0) (m := m_law_named) (x := .li [v0, v1, v2, v3, v4, v5, v6, v7]) (by rw [clD]; exact h) (by rw [clD]; exact (cl_ers h).2) (fun z => by rw [clD] at z ⊢; exact (cl_ers z).2) named_core (run_law_named _ _) (runT_law_named _ _)
theorem er_cl {n : Nat} : (clL n (ersA v0 v1 v2 v3 v4 v5 v6 v7) = true → clL n [v0, v1, v2, v3, v4, v5, v6, v7] = true) ∧ (clL n (ersN v0 v1 v2 v3 v4 v5 v6 v7) = true → clL n [v0, v1, v2, v3, v4, v5, v6, v7] = true) := by
  simp only [ersA, ersN, List.cons_append, List.nil_append, clL, clD, clF, Bool.and_true, Bool.and_eq_true]
  exact ⟨fun h => h, fun h => h⟩
theorem heldA_ok (h : clL st.length [v0, v1, v2, v3, v4, v5, v6, v7] = true) : F_law_held [.li (ersA v0 v1 v2 v3 v4 v5 v6 v7)] st = .ok (.li [v0, v1, v2, v3, v4, v5, v6, v7]) st :=
  both (n := 0) (m := m_law_held) (x := .li (ersA v0 v1 v2 v3 v4 v5 v6 v7)) (by rw [clD]; exact (cl_ers h).1) (by rw [clD]; exact h) (fun z => by rw [clD] at z ⊢; exact er_cl.1 z) heldA_core (run_law_held _ _) (runT_law_held _ _)
theorem heldN_ok (h : clL st.length [v0, v1, v2, v3, v4, v5, v6, v7] = true) : F_law_held [.li (ersN v0 v1 v2 v3 v4 v5 v6 v7)] st = .ok (.li [v0, v1, v2, v3, v4, v5, v6, v7]) st :=
  both (n := 0) (m := m_law_held) (x := .li (ersN v0 v1 v2 v3 v4 v5 v6 v7)) (by rw [clD]; exact (cl_ers h).2) (by rw [clD]; exact h) (fun z => by rw [clD] at z ⊢; exact er_cl.2 z) heldN_core (run_law_held _ _) (runT_law_held _ _)
end
def clsL : List Nat := [1, 2, 3, 4, 5, 8, 9, 10, 6, 7]
def spotL (i : Nat) : List Dt := (List.range 10).map fun j => .bl (decide (j = i))
theorem sorts_ok {c i : Nat} {fs : List (Nat × Dt)} (st : Sto) (hf : clF 0 fs = true) (h : clsL[i]? = some c) : F_law_sorts [.er c fs] st = .ok (.li (spotL i)) st := by
  rw [run_law_sorts _ _ (by simp only [clL, clD, hf, Bool.and_self])]
  have hi : i < 10 := (List.getElem?_eq_some_iff.mp h).1
  have e : ∃ s, outF (m_law_sorts [some (.er c fs), none] []) = .ok (.li (spotL i)) s := by
    rcases (show i = 0 ∨ i = 1 ∨ i = 2 ∨ i = 3 ∨ i = 4 ∨ i = 5 ∨ i = 6 ∨ i = 7 ∨ i = 8 ∨ i = 9 by omega) with rfl | rfl | rfl | rfl | rfl | rfl | rfl | rfl | rfl | rfl <;> (cases h; exact ⟨_, rfl⟩)
  obtain ⟨s, e⟩ := e
  rw [e]
  have hcs : clD 0 (.li (spotL i)) = true := by
    rw [clD]
    exact clL_map _ (fun _ _ => rfl)
  exact puR_ok hcs
theorem ix8 {xs : List Dt} (h : xs.length = 8) : ∃ v0 v1 v2 v3 v4 v5 v6 v7 : Dt, xs = [v0, v1, v2, v3, v4, v5, v6, v7] := by
  match xs, h with
  | [a0, a1, a2, a3, a4, a5, a6, a7], _ => exact ⟨a0, a1, a2, a3, a4, a5, a6, a7, rfl⟩
theorem mul8 {x : Dt} {s : Sto} : mulD (.li [x]) (.int 8) s = .ok (.li [x, x, x, x, x, x, x, x]) s := by
  simp only [mulD, lsD]
  rw [if_pos ⟨by decide, by decide, (show 1 * 8 ≤ 1000000 by decide)⟩]
  rfl
theorem giv_m8 {me : ME} {x : Dt} {env : Lo} {s : Sto} {P : Dt → Sto → Prop} (h : me env s = .ok x s) (k : P (.li [x, x, x, x, x, x, x, x]) s) : Giv (mBin mulD (mLstV (mCons me mNil)) (mC (.int 8)) env s) P :=
  giv_bin (giv_lstV (giv_cons (giv h (giv_nil ⟨Nat.le_of_ble_eq_true rfl, giv_c (giv mul8 k)⟩))))
theorem lst1 {x : Dt} {env : Lo} {s : Sto} : mLstV (mCons (mC x) mNil) env s = .ok (.li [x]) s := eqg (giv_lstV (giv_cons (giv_c (giv_nil ⟨Nat.le_of_ble_eq_true rfl, rfl, rfl⟩))))
theorem lst2 {x y : Dt} {env : Lo} {s : Sto} : mLstV (mCons (mC x) (mCons (mC y) mNil)) env s = .ok (.li [x, y]) s := eqg (giv_lstV (giv_cons (giv_c (giv_cons (giv_c (giv_nil ⟨Nat.le_of_ble_eq_true rfl, rfl, rfl⟩))))))
theorem ne8 {s : Sto} {p : Nat} {xs : List Dt} (h : s[p]? = some (.lst xs)) (hx : xs = [.int 1] ∨ xs = [.int 1, .int 2]) : neD (.li [Dt.ref p, Dt.ref p, Dt.ref p, Dt.ref p, Dt.ref p, Dt.ref p, Dt.ref p, Dt.ref p]) (.li [.li xs, .li xs, .li xs, .li xs, .li xs, .li xs, .li xs, .li xs]) s = .ok (.bl false) s := by
  have go : ∀ q : PyData, toP 39 s (.ref p) = some q → toP 39 s (.li xs) = some q → SeqAt.shaped (.list [q, q, q, q, q, q, q, q]) = true → PyData.eqv (.list [q, q, q, q, q, q, q, q]) (.list [q, q, q, q, q, q, q, q]) = true → neD (.li [Dt.ref p, Dt.ref p, Dt.ref p, Dt.ref p, Dt.ref p, Dt.ref p, Dt.ref p, Dt.ref p]) (.li [.li xs, .li xs, .li xs, .li xs, .li xs, .li xs, .li xs, .li xs]) s = .ok (.bl false) s := fun q r1 r2 r3 r4 => by
    have a : toP 40 s (.li [Dt.ref p, Dt.ref p, Dt.ref p, Dt.ref p, Dt.ref p, Dt.ref p, Dt.ref p, Dt.ref p]) = some (.list [q, q, q, q, q, q, q, q]) := by
      show (([Dt.ref p, Dt.ref p, Dt.ref p, Dt.ref p, Dt.ref p, Dt.ref p, Dt.ref p, Dt.ref p] : List Dt).mapM (toP 39 s)).map PyData.list = _
      simp only [List.mapM_cons, List.mapM_nil, r1]
      rfl
    have b : toP 40 s (.li [.li xs, .li xs, .li xs, .li xs, .li xs, .li xs, .li xs, .li xs]) = some (.list [q, q, q, q, q, q, q, q]) := by
      show (([.li xs, .li xs, .li xs, .li xs, .li xs, .li xs, .li xs, .li xs] : List Dt).mapM (toP 39 s)).map PyData.list = _
      simp only [List.mapM_cons, List.mapM_nil, r2]
      rfl
    have c : eqB.eqP (.li [Dt.ref p, Dt.ref p, Dt.ref p, Dt.ref p, Dt.ref p, Dt.ref p, Dt.ref p, Dt.ref p]) (.li [.li xs, .li xs, .li xs, .li xs, .li xs, .li xs, .li xs, .li xs]) s = some true := by
      simp only [eqB.eqP, a, b, r3, r4, Bool.and_self, if_true]
    have e : eqB (.li [Dt.ref p, Dt.ref p, Dt.ref p, Dt.ref p, Dt.ref p, Dt.ref p, Dt.ref p, Dt.ref p]) (.li [.li xs, .li xs, .li xs, .li xs, .li xs, .li xs, .li xs, .li xs]) s = some true := c
    simp only [neD, e, Bool.not_true]
  rcases hx with rfl | rfl
  · exact go (.list [.int 1]) (by simp only [toP, h]; rfl) rfl (by decide +kernel) (by decide +kernel)
  · exact go (.list [.int 1, .int 2]) (by simp only [toP, h]; rfl) rfl (by decide +kernel) (by decide +kernel)

theorem law_true {ns : List Int} (hn : ns.length ≤ 63) : ∃ st', F_law [.rl (ns.map Dt.int)] [] = .ok (.bl true) st' := by
  rw [run_law]
  suffices h : Giv (outF (m_law [some (.rl (ns.map Dt.int)), none, none, none, none, none, none, none, none, none, none] [])) (fun d _ => d = .bl true) by
    obtain ⟨d, s, e, rfl⟩ := h.eq
    exact ⟨s, e⟩
  refine giv_out ?_
  unfold m_law
  refine run_seq (run_for ?_)
  walk_at "st"
  refine giv (len_any (xs := ns.map Dt.int) rfl) ?_
  rw [List.length_map]
  walk_at "st"
  refine giv rfl ?_
  walk_at "st"
  refine giv rfl ?_
  walk_at "st"
  generalize hk : (if (if (ns.length : Int) < 3 then (ns.length : Int) else 3) > 1 then (if (ns.length : Int) < 3 then (ns.length : Int) else 3) else 1) = k
  have hk3 : 0 ≤ k ∧ k ≤ 3 := by rw [← hk]; split <;> split <;> omega
  refine ⟨by omega, by omega, ?_⟩
  refine run_forR k.toNat (fun i e s => ∃ x1 x2 x3 x4 x5 x6 x7 x8 x9 x10, e = [some (.rl (ns.map Dt.int)), x1, x2, x3, x4, x5, x6, x7, x8, x9, x10]) ⟨_, _, _, _, _, _, _, _, _, _, rfl⟩ ?_ (fun e s ⟨x1, x2, x3, x4, x5, x6, x7, x8, x9, x10, h⟩ => by subst h; exact run_ret (giv_c rfl))
  rintro i e s hi ⟨x1, x2, x3, x4, x5, x6, x7, x8, x9, x10, rfl⟩
  refine ⟨_, s, rfl, ?_⟩
  simp only [List.set]
  obtain ⟨b, s1, e1, hb, X1, B1⟩ := box_ok (ns := ns) (k := 0 + (i : Int)) (own := 1) (st := s) (by omega)
  refine run_seq (run_set ?_)
  walk_at "st"
  refine giv e1 ?_
  simp only [List.set]
  refine run_seq (run_set ?_)
  walk_at "st"
  refine ⟨by omega, by omega, ?_⟩
  have hstop : ∀ s, (wRng 0 8).turn 8 s = .stop := fun s => wRng_stop
  refine giv_lcGo 8 rfl (by decide) (Bq b) (fun d => d ∈ oddL) hstop B1 (fun j s hj hB => ?_) ?_
  · refine ⟨_, wRng_item hj, _, rfl, ?_⟩
    obtain ⟨v, s2, e2, hv, D⟩ := value_ok hB
    exact giv_call (giv_cons (giv_var rfl (giv_nil ⟨rfl, giv e2 ⟨hv, D.inv⟩⟩)))
  intro ys s2 B2 hlen hy
  obtain ⟨v0, v1, v2, v3, v4, v5, v6, v7, rfl⟩ := ix8 hlen
  have hc0 : clL 0 [v0, v1, v2, v3, v4, v5, v6, v7] = true := clL_mem.mpr fun x hx => cl_odd (hy x hx) _
  have hc : ∀ n, clL n [v0, v1, v2, v3, v4, v5, v6, v7] = true := fun n => clL_mem.mpr fun x hx => cl_odd (hy x hx) _
  have hrep : ∀ s, reprD [.li [v0, v1, v2, v3, v4, v5, v6, v7]] s = .ok (.str (shownD (.li [v0, v1, v2, v3, v4, v5, v6, v7]))) s := fun s => by
    have h := fun x hx => odd_shown (hy x hx)
    simp only [List.mem_cons, List.not_mem_nil, or_false, forall_eq_or_imp, forall_eq] at h
    obtain ⟨h0, h1, h2, h3, h4, h5, h6, h7⟩ := h
    refine repr_ok ?_ ?_ ?_
    · show okL 37 _ = true
      simp only [okL, h0, h1, h2, h3, h4, h5, h6, h7, Bool.and_self]
    · show shL _ = true
      simp only [shL, h0, h1, h2, h3, h4, h5, h6, h7, Bool.and_self]
    · have := h0.2.2; have := h1.2.2; have := h2.2.2; have := h3.2.2; have := h4.2.2; have := h5.2.2; have := h6.2.2; have := h7.2.2
      simp only [wD, wL]
      omega
  simp only [List.set]
  refine run_seq (run_set (giv_call (giv_cons (giv_var rfl (giv_nil ⟨rfl, giv (made_ok (hc _)) ?_⟩)))))
  simp only [List.set]
  -- each error, asked
  obtain ⟨w, w1, w2, w3, w4⟩ := enum_any (d := .li (ersA v0 v1 v2 v3 v4 v5 v6 v7)) (.inr rfl)
  refine run_seq (run_for (giv_enum (giv_cons (giv_var rfl (giv_nil (giv (w1 _) ?_))))))
  rw [w2]
  refine run_forL (ersA v0 v1 v2 v3 v4 v5 v6 v7).length (fun j e s => s = s2 ∧ ∃ x7 x8, e = [some (.rl (ns.map Dt.int)), some (.int (0 + (i : Int))), some (.ref b), some (.li [v0, v1, v2, v3, v4, v5, v6, v7]), some (.li (ersA v0 v1 v2 v3 v4 v5 v6 v7)), x5, x6, x7, x8, x9, x10]) (fun e s _ => w3 s) ?_ ?_ (ersA v0 v1 v2 v3 v4 v5 v6 v7).length 0 _ _ (by omega) ⟨rfl, _, _, rfl⟩
  · rintro j e s hj ⟨rfl, x7, x8, rfl⟩
    refine ⟨_, w4 j _ hj, _, _, rfl, ?_⟩
    simp only [List.zip_cons_cons, List.zip_nil_right, List.foldl, List.set]
    have hm := clL_mem.mp (cl_ers hc0).1 _ (List.getElem_mem hj)
    obtain ⟨c, fs, he, hcl⟩ : ∃ c fs, (ersA v0 v1 v2 v3 v4 v5 v6 v7)[j] = .er c fs ∧ clsL[j]? = some c := by
      have hj' : j < 10 := hj
      rcases (show j = 0 ∨ j = 1 ∨ j = 2 ∨ j = 3 ∨ j = 4 ∨ j = 5 ∨ j = 6 ∨ j = 7 ∨ j = 8 ∨ j = 9 by omega) with rfl | rfl | rfl | rfl | rfl | rfl | rfl | rfl | rfl | rfl <;> exact ⟨_, _, rfl, rfl⟩
    have hf : clF 0 fs = true := by
      rw [he, clD] at hm
      exact hm
    rw [he]
    refine run_seq (run_if (giv_b (giv_bin (giv_call (giv_cons (giv_var rfl (giv_nil ⟨rfl, giv (sorts_ok _ hf hcl) ?_⟩)))))))
    refine giv (a := .li (spotL j)) (s := s) ?_ ?_
    · have hj' : j < 10 := hj
      rcases (show j = 0 ∨ j = 1 ∨ j = 2 ∨ j = 3 ∨ j = 4 ∨ j = 5 ∨ j = 6 ∨ j = 7 ∨ j = 8 ∨ j = 9 by omega) with rfl | rfl | rfl | rfl | rfl | rfl | rfl | rfl | rfl | rfl <;> rfl
    have hne : neD (.li (spotL j)) (.li (spotL j)) s = .ok (.bl false) s := by
      have hj' : j < 10 := hj
      rcases (show j = 0 ∨ j = 1 ∨ j = 2 ∨ j = 3 ∨ j = 4 ∨ j = 5 ∨ j = 6 ∨ j = 7 ∨ j = 8 ∨ j = 9 by omega) with rfl | rfl | rfl | rfl | rfl | rfl | rfl | rfl | rfl | rfl <;> rfl
    refine giv hne ⟨_, rfl, ifF (run_nx ?_)⟩
    have q1 : qI_LayError c = some true := by
      have hj' : j < 10 := hj
      rcases (show j = 0 ∨ j = 1 ∨ j = 2 ∨ j = 3 ∨ j = 4 ∨ j = 5 ∨ j = 6 ∨ j = 7 ∨ j = 8 ∨ j = 9 by omega) with rfl | rfl | rfl | rfl | rfl | rfl | rfl | rfl | rfl | rfl <;> (cases hcl; rfl)
    have q2 : qI_ValueError c = some true := q1
    have giv_is : ∀ (q : Nat → Option Bool) (P : Dt → Sto → Prop), q c = some true → P (.bl true) s → Giv (mIsE q (mVar 8) [some (.rl (ns.map Dt.int)), some (.int (0 + (i : Int))), some (.ref b), some (.li [v0, v1, v2, v3, v4, v5, v6, v7]), some (.li (ersA v0 v1 v2 v3 v4 v5 v6 v7)), x5, x6, some (.int (j : Nat)), some (.er c fs), x9, x10] s) P := fun q P hq k =>
      giv_bind (giv_var rfl (giv (a := .bl true) (s := s) (by simp only [hq]) k))
    refine run_if (giv_or (giv_not (giv_b (giv_is _ _ q1 ⟨_, rfl, ?_⟩))))
    refine ifNT (giv_not (giv_b (giv_is _ _ q2 ⟨_, rfl, ?_⟩)))
    exact ifNT (run_nx ⟨rfl, _, _, rfl⟩)
  rintro e s ⟨rfl, x7, x8, rfl⟩
  refine run_seq (run_if (giv_or (giv_b (giv_bin (giv_cb (giv_cons (giv_call (giv_cons (giv_var rfl (giv_nil ⟨rfl, giv (heldA_ok (hc _)) (giv_nil (giv (hrep _) ?_))⟩))))))))))
  refine giv_cb (giv_cons (giv_var rfl (giv_nil (giv (hrep _) (giv_neS ⟨_, rfl, ?_⟩)))))
  rw [decide_eq_true rfl]
  refine ifF (giv_b (giv_bin (giv_cb (giv_cons (giv_call (giv_cons (giv_call (giv_cons (giv_var rfl (giv_nil ⟨rfl, giv (named_ok (hc _)) (giv_nil ⟨rfl, giv (heldN_ok (hc _)) (giv_nil (giv (hrep _) ?_))⟩)⟩))))))))))
  refine giv_cb (giv_cons (giv_var rfl (giv_nil (giv (hrep _) (giv_neS ⟨_, rfl, ?_⟩)))))
  rw [decide_eq_true rfl]
  refine ifF (run_nx ?_)
  refine run_seq (run_set (giv_lstI (giv_cons (giv_c (giv_nil ⟨Nat.le_of_ble_eq_true rfl, ?_⟩)))))
  simp only [List.set]
  have gat : ∀ xs : List Dt, (s ++ [Ob.lst xs])[s.length]? = some (.lst xs) := fun xs => by rw [List.getElem?_append_right (Nat.le_refl _), Nat.sub_self]; rfl
  generalize hp : s.length = p at gat
  have hcp : ∀ xs : List Dt, clL (s ++ [Ob.lst xs]).length [Dt.ref p, Dt.ref p, Dt.ref p, Dt.ref p, Dt.ref p, Dt.ref p, Dt.ref p, Dt.ref p] = true := fun xs => by simp [clL, clD, hp]
  refine run_seq (run_set (giv_call (giv_cons (giv_m8 (x := Dt.ref p) rfl (giv_nil ⟨rfl, giv (made_ok (st := s ++ [Ob.lst [Dt.int 1]]) (hcp _)) ?_⟩)))))
  simp only [List.set]
  refine run_seq (run_if (giv_b (giv_bin (giv_call (giv_cons (giv_var rfl (giv_nil ⟨rfl, giv (heldA_ok (hcp _)) ?_⟩)))))))
  refine giv_m8 lst1 (giv (ne8 (gat _) (.inl rfl)) ⟨_, rfl, ifF (run_nx ?_)⟩)
  have ha : appendD (.ref p) [.int 2] (s ++ [.lst [.int 1]]) = .ok .non (s ++ [.lst [.int 1, .int 2]]) := by
    simp only [appendD, gat]
    rw [if_pos (by decide), List.set_append_right _ _ (by omega), show p - s.length = 0 by omega]
    rfl
  have hck : isL (.ref p) (s ++ [.lst [.int 1]]) = true := by
    simp only [isL, lstD, gat]
    rfl
  refine run_seq (run_expr (giv_bm (giv_var rfl ⟨hck, giv_cons (giv_c (giv_nil (giv ha ?_)))⟩)))
  refine run_if (giv_b (giv_bin (giv_call (giv_cons (giv_var rfl (giv_nil ⟨rfl, giv (heldA_ok (hcp _)) ?_⟩))))))
  refine giv_m8 lst2 (giv (ne8 (gat _) (.inr rfl)) ⟨_, rfl, ifF (run_nx ?_)⟩)
  exact ⟨_, _, _, _, _, _, _, _, _, _, rfl⟩
end Law
set_option Elab.async false
set_option linter.all false
set_option maxRecDepth 100000
set_option maxHeartbeats 4000000
namespace Law
open PySem PySem.Spec PyProof.Rows L2 LT
section
variable {P : Program} {w : World} {K : PySem.W.Frag} {mg : Str → Option Value} {base : Heap}
abbrev st_InvalidRowD_initD : Stmt := inClass (topS 5) 0
theorem sc_InvalidRowD_initD : FnScope ["self", "part"] ["self", "part"] (defScope st_InvalidRowD_initD) := ⟨rfl, rfl, rfl, by decide +kernel, rfl, by decide +kernel, by decide +kernel⟩
theorem ok_InvalidRowD_initD {f C0 : Addr} {fd : FuncData} (F : Fun K "__init__" "InvalidRow.__init__" st_InvalidRowD_initD f fd) (hm : mg "LayError" = some (.ref C0)) (hga : PySem.W.specialIn K (.ref C0) "__getattribute__" = some (some (.builtin "type.__getattribute__"))) (hrd : PySem.W.readsIn K C0 (.type "type") = true) (hty : PySem.W.typeIn K (.ref C0) = some (.type "type")) (vV : PySem.W.findCls K (.ref C0) (.type "type") "__init__" = some (.val (.builtin "ValueError.__init__"))) : FnOk P w K mg base (L2.CX P w) 1 f fd ["self", "part"] (spErr K "part") := by
  refine F.okX sc_InvalidRowD_initD (fun vs H Q E h => ?_) (fun cdv A outer s H vs Q E hr h => ?_)
  · obtain ⟨a, C, v, rfl, _⟩ := h
    rfl
  · obtain ⟨a, C, v, rfl, hT, hno, ha, k⟩ := h
    refine ⟨_, pss_cons (ps_expr (pe_binit rfl hm hga hrd hty vV (pa_cons (pv 0) (pa_cons pe_str pa_nil)))) (pss_one (ps_ost (pv 0) (pv 1))), ?_⟩
    exact ⟨_, rfl, a, C, _, rfl, by decide, hT, ha, _, rfl, _, rfl, a, C, rfl, hT, hno, .inl ⟨ha, fun dx hx hne => k dx hx hne⟩⟩
abbrev st_InvalidTextD_initD : Stmt := inClass (topS 4) 0
theorem sc_InvalidTextD_initD : FnScope ["self", "at"] ["self", "at"] (defScope st_InvalidTextD_initD) := ⟨rfl, rfl, rfl, by decide +kernel, rfl, by decide +kernel, by decide +kernel⟩
theorem ok_InvalidTextD_initD {f C0 : Addr} {fd : FuncData} (F : Fun K "__init__" "InvalidText.__init__" st_InvalidTextD_initD f fd) (hm : mg "LayError" = some (.ref C0)) (hga : PySem.W.specialIn K (.ref C0) "__getattribute__" = some (some (.builtin "type.__getattribute__"))) (hrd : PySem.W.readsIn K C0 (.type "type") = true) (hty : PySem.W.typeIn K (.ref C0) = some (.type "type")) (vV : PySem.W.findCls K (.ref C0) (.type "type") "__init__" = some (.val (.builtin "ValueError.__init__"))) : FnOk P w K mg base (L2.CX P w) 1 f fd ["self", "at"] (spErr K "at") := by
  refine F.okX sc_InvalidTextD_initD (fun vs H Q E h => ?_) (fun cdv A outer s H vs Q E hr h => ?_)
  · obtain ⟨a, C, v, rfl, _⟩ := h
    rfl
  · obtain ⟨a, C, v, rfl, hT, hno, ha, k⟩ := h
    refine ⟨_, pss_cons (ps_expr (pe_binit rfl hm hga hrd hty vV (pa_cons (pv 0) (pa_cons pe_str pa_nil)))) (pss_one (ps_ost (pv 0) (pv 1))), ?_⟩
    exact ⟨_, rfl, a, C, _, rfl, by decide, hT, ha, _, rfl, _, rfl, a, C, rfl, hT, hno, .inl ⟨ha, fun dx hx hne => k dx hx hne⟩⟩
abbrev st_InvalidProgramD_initD : Stmt := inClass (topS 3) 0
theorem sc_InvalidProgramD_initD : FnScope ["self", "at"] ["self", "at"] (defScope st_InvalidProgramD_initD) := ⟨rfl, rfl, rfl, by decide +kernel, rfl, by decide +kernel, by decide +kernel⟩
theorem ok_InvalidProgramD_initD {f C0 : Addr} {fd : FuncData} (F : Fun K "__init__" "InvalidProgram.__init__" st_InvalidProgramD_initD f fd) (hm : mg "LayError" = some (.ref C0)) (hga : PySem.W.specialIn K (.ref C0) "__getattribute__" = some (some (.builtin "type.__getattribute__"))) (hrd : PySem.W.readsIn K C0 (.type "type") = true) (hty : PySem.W.typeIn K (.ref C0) = some (.type "type")) (vV : PySem.W.findCls K (.ref C0) (.type "type") "__init__" = some (.val (.builtin "ValueError.__init__"))) : FnOk P w K mg base (L2.CX P w) 1 f fd ["self", "at"] (spErr K "at") := by
  refine F.okX sc_InvalidProgramD_initD (fun vs H Q E h => ?_) (fun cdv A outer s H vs Q E hr h => ?_)
  · obtain ⟨a, C, v, rfl, _⟩ := h
    rfl
  · obtain ⟨a, C, v, rfl, hT, hno, ha, k⟩ := h
    refine ⟨_, pss_cons (ps_expr (pe_binit rfl hm hga hrd hty vV (pa_cons (pv 0) (pa_cons pe_str pa_nil)))) (pss_one (ps_ost (pv 0) (pv 1))), ?_⟩
    exact ⟨_, rfl, a, C, _, rfl, by decide, hT, ha, _, rfl, _, rfl, a, C, rfl, hT, hno, .inl ⟨ha, fun dx hx hne => k dx hx hne⟩⟩
abbrev st_InvalidPieceD_initD : Stmt := inClass (topS 2) 0
theorem sc_InvalidPieceD_initD : FnScope ["self", "word"] ["self", "word"] (defScope st_InvalidPieceD_initD) := ⟨rfl, rfl, rfl, by decide +kernel, rfl, by decide +kernel, by decide +kernel⟩
theorem ok_InvalidPieceD_initD {f C0 : Addr} {fd : FuncData} (F : Fun K "__init__" "InvalidPiece.__init__" st_InvalidPieceD_initD f fd) (hm : mg "LayError" = some (.ref C0)) (hga : PySem.W.specialIn K (.ref C0) "__getattribute__" = some (some (.builtin "type.__getattribute__"))) (hrd : PySem.W.readsIn K C0 (.type "type") = true) (hty : PySem.W.typeIn K (.ref C0) = some (.type "type")) (vV : PySem.W.findCls K (.ref C0) (.type "type") "__init__" = some (.val (.builtin "ValueError.__init__"))) : FnOk P w K mg base (L2.CX P w) 1 f fd ["self", "word"] (spErr K "word") := by
  refine F.okX sc_InvalidPieceD_initD (fun vs H Q E h => ?_) (fun cdv A outer s H vs Q E hr h => ?_)
  · obtain ⟨a, C, v, rfl, _⟩ := h
    rfl
  · obtain ⟨a, C, v, rfl, hT, hno, ha, k⟩ := h
    refine ⟨_, pss_cons (ps_expr (pe_binit rfl hm hga hrd hty vV (pa_cons (pv 0) (pa_cons pe_str pa_nil)))) (pss_one (ps_ost (pv 0) (pv 1))), ?_⟩
    exact ⟨_, rfl, a, C, _, rfl, by decide, hT, ha, _, rfl, _, rfl, a, C, rfl, hT, hno, .inl ⟨ha, fun dx hx hne => k dx hx hne⟩⟩
abbrev st_NoRowD_initD : Stmt := inClass (topS 11) 0
theorem sc_NoRowD_initD : FnScope ["self", "at"] ["self", "at"] (defScope st_NoRowD_initD) := ⟨rfl, rfl, rfl, by decide +kernel, rfl, by decide +kernel, by decide +kernel⟩
theorem ok_NoRowD_initD {f C0 : Addr} {fd : FuncData} (F : Fun K "__init__" "NoRow.__init__" st_NoRowD_initD f fd) (hm : mg "LayError" = some (.ref C0)) (hga : PySem.W.specialIn K (.ref C0) "__getattribute__" = some (some (.builtin "type.__getattribute__"))) (hrd : PySem.W.readsIn K C0 (.type "type") = true) (hty : PySem.W.typeIn K (.ref C0) = some (.type "type")) (vV : PySem.W.findCls K (.ref C0) (.type "type") "__init__" = some (.val (.builtin "ValueError.__init__"))) : FnOk P w K mg base (L2.CX P w) 1 f fd ["self", "at"] (spErr K "at") := by
  refine F.okX sc_NoRowD_initD (fun vs H Q E h => ?_) (fun cdv A outer s H vs Q E hr h => ?_)
  · obtain ⟨a, C, v, rfl, _⟩ := h
    rfl
  · obtain ⟨a, C, v, rfl, hT, hno, ha, k⟩ := h
    refine ⟨_, pss_cons (ps_expr (pe_binit rfl hm hga hrd hty vV (pa_cons (pv 0) (pa_cons pe_str pa_nil)))) (pss_one (ps_ost (pv 0) (pv 1))), ?_⟩
    exact ⟨_, rfl, a, C, _, rfl, by decide, hT, ha, _, rfl, _, rfl, a, C, rfl, hT, hno, .inl ⟨ha, fun dx hx hne => k dx hx hne⟩⟩
abbrev st_NoPieceD_initD : Stmt := inClass (topS 10) 0
theorem sc_NoPieceD_initD : FnScope ["self", "at"] ["self", "at"] (defScope st_NoPieceD_initD) := ⟨rfl, rfl, rfl, by decide +kernel, rfl, by decide +kernel, by decide +kernel⟩
theorem ok_NoPieceD_initD {f C0 : Addr} {fd : FuncData} (F : Fun K "__init__" "NoPiece.__init__" st_NoPieceD_initD f fd) (hm : mg "LayError" = some (.ref C0)) (hga : PySem.W.specialIn K (.ref C0) "__getattribute__" = some (some (.builtin "type.__getattribute__"))) (hrd : PySem.W.readsIn K C0 (.type "type") = true) (hty : PySem.W.typeIn K (.ref C0) = some (.type "type")) (vV : PySem.W.findCls K (.ref C0) (.type "type") "__init__" = some (.val (.builtin "ValueError.__init__"))) : FnOk P w K mg base (L2.CX P w) 1 f fd ["self", "at"] (spErr K "at") := by
  refine F.okX sc_NoPieceD_initD (fun vs H Q E h => ?_) (fun cdv A outer s H vs Q E hr h => ?_)
  · obtain ⟨a, C, v, rfl, _⟩ := h
    rfl
  · obtain ⟨a, C, v, rfl, hT, hno, ha, k⟩ := h
    refine ⟨_, pss_cons (ps_expr (pe_binit rfl hm hga hrd hty vV (pa_cons (pv 0) (pa_cons pe_str pa_nil)))) (pss_one (ps_ost (pv 0) (pv 1))), ?_⟩
    exact ⟨_, rfl, a, C, _, rfl, by decide, hT, ha, _, rfl, _, rfl, a, C, rfl, hT, hno, .inl ⟨ha, fun dx hx hne => k dx hx hne⟩⟩
abbrev st_RefusedD_initD : Stmt := inClass (topS 9) 0
theorem sc_RefusedD_initD : FnScope ["self", "word"] ["self", "word"] (defScope st_RefusedD_initD) := ⟨rfl, rfl, rfl, by decide +kernel, rfl, by decide +kernel, by decide +kernel⟩
theorem ok_RefusedD_initD {f C0 : Addr} {fd : FuncData} (F : Fun K "__init__" "Refused.__init__" st_RefusedD_initD f fd) (hm : mg "LayError" = some (.ref C0)) (hga : PySem.W.specialIn K (.ref C0) "__getattribute__" = some (some (.builtin "type.__getattribute__"))) (hrd : PySem.W.readsIn K C0 (.type "type") = true) (hty : PySem.W.typeIn K (.ref C0) = some (.type "type")) (vV : PySem.W.findCls K (.ref C0) (.type "type") "__init__" = some (.val (.builtin "ValueError.__init__"))) : FnOk P w K mg base (L2.CX P w) 1 f fd ["self", "word"] (spErr K "word") := by
  refine F.okX sc_RefusedD_initD (fun vs H Q E h => ?_) (fun cdv A outer s H vs Q E hr h => ?_)
  · obtain ⟨a, C, v, rfl, _⟩ := h
    rfl
  · obtain ⟨a, C, v, rfl, hT, hno, ha, k⟩ := h
    refine ⟨_, pss_cons (ps_expr (pe_binit rfl hm hga hrd hty vV (pa_cons (pv 0) (pa_cons pe_str pa_nil)))) (pss_one (ps_ost (pv 0) (pv 1))), ?_⟩
    exact ⟨_, rfl, a, C, _, rfl, by decide, hT, ha, _, rfl, _, rfl, a, C, rfl, hT, hno, .inl ⟨ha, fun dx hx hne => k dx hx hne⟩⟩
abbrev st_InvalidToolD_initD : Stmt := inClass (topS 6) 0
theorem sc_InvalidToolD_initD : FnScope ["self", "at"] ["self", "at"] (defScope st_InvalidToolD_initD) := ⟨rfl, rfl, rfl, by decide +kernel, rfl, by decide +kernel, by decide +kernel⟩
theorem ok_InvalidToolD_initD {f C0 : Addr} {fd : FuncData} (F : Fun K "__init__" "InvalidTool.__init__" st_InvalidToolD_initD f fd) (hm : mg "LayError" = some (.ref C0)) (hga : PySem.W.specialIn K (.ref C0) "__getattribute__" = some (some (.builtin "type.__getattribute__"))) (hrd : PySem.W.readsIn K C0 (.type "type") = true) (hty : PySem.W.typeIn K (.ref C0) = some (.type "type")) (vV : PySem.W.findCls K (.ref C0) (.type "type") "__init__" = some (.val (.builtin "ValueError.__init__"))) : FnOk P w K mg base (L2.CX P w) 1 f fd ["self", "at"] (spErr K "at") := by
  refine F.okX sc_InvalidToolD_initD (fun vs H Q E h => ?_) (fun cdv A outer s H vs Q E hr h => ?_)
  · obtain ⟨a, C, v, rfl, _⟩ := h
    rfl
  · obtain ⟨a, C, v, rfl, hT, hno, ha, k⟩ := h
    refine ⟨_, pss_cons (ps_expr (pe_binit rfl hm hga hrd hty vV (pa_cons (pv 0) (pa_cons pe_str pa_nil)))) (pss_one (ps_ost (pv 0) (pv 1))), ?_⟩
    exact ⟨_, rfl, a, C, _, rfl, by decide, hT, ha, _, rfl, _, rfl, a, C, rfl, hT, hno, .inl ⟨ha, fun dx hx hne => k dx hx hne⟩⟩
abbrev st_InvalidCommandD_initD : Stmt := inClass (topS 8) 0
theorem sc_InvalidCommandD_initD : FnScope ["self"] ["self"] (defScope st_InvalidCommandD_initD) := ⟨rfl, rfl, rfl, by decide +kernel, rfl, by decide +kernel, by decide +kernel⟩
theorem ok_InvalidCommandD_initD {f C0 : Addr} {fd : FuncData} (F : Fun K "__init__" "InvalidCommand.__init__" st_InvalidCommandD_initD f fd) (hm : mg "LayError" = some (.ref C0)) (hga : PySem.W.specialIn K (.ref C0) "__getattribute__" = some (some (.builtin "type.__getattribute__"))) (hrd : PySem.W.readsIn K C0 (.type "type") = true) (hty : PySem.W.typeIn K (.ref C0) = some (.type "type")) (vV : PySem.W.findCls K (.ref C0) (.type "type") "__init__" = some (.val (.builtin "ValueError.__init__"))) : FnOk P w K mg base (L2.CX P w) 1 f fd ["self"] (spErr0 K) := by
  refine F.okX sc_InvalidCommandD_initD (fun vs H Q E h => ?_) (fun cdv A outer s H vs Q E hr h => ?_)
  · obtain ⟨a, C, rfl, _⟩ := h
    rfl
  · obtain ⟨a, C, rfl, hT, ha, k⟩ := h
    refine ⟨_, pss_one (ps_expr (pe_binit rfl hm hga hrd hty vV (pa_cons (pv 0) (pa_cons pe_str pa_nil)))), ?_⟩
    exact ⟨_, rfl, a, C, _, rfl, by decide, hT, ha, k⟩
abbrev st_InvalidGoalD_initD : Stmt := inClass (topS 7) 0
theorem sc_InvalidGoalD_initD : FnScope ["self"] ["self"] (defScope st_InvalidGoalD_initD) := ⟨rfl, rfl, rfl, by decide +kernel, rfl, by decide +kernel, by decide +kernel⟩
theorem ok_InvalidGoalD_initD {f C0 : Addr} {fd : FuncData} (F : Fun K "__init__" "InvalidGoal.__init__" st_InvalidGoalD_initD f fd) (hm : mg "LayError" = some (.ref C0)) (hga : PySem.W.specialIn K (.ref C0) "__getattribute__" = some (some (.builtin "type.__getattribute__"))) (hrd : PySem.W.readsIn K C0 (.type "type") = true) (hty : PySem.W.typeIn K (.ref C0) = some (.type "type")) (vV : PySem.W.findCls K (.ref C0) (.type "type") "__init__" = some (.val (.builtin "ValueError.__init__"))) : FnOk P w K mg base (L2.CX P w) 1 f fd ["self"] (spErr0 K) := by
  refine F.okX sc_InvalidGoalD_initD (fun vs H Q E h => ?_) (fun cdv A outer s H vs Q E hr h => ?_)
  · obtain ⟨a, C, rfl, _⟩ := h
    rfl
  · obtain ⟨a, C, rfl, hT, ha, k⟩ := h
    refine ⟨_, pss_one (ps_expr (pe_binit rfl hm hga hrd hty vV (pa_cons (pv 0) (pa_cons pe_str pa_nil)))), ?_⟩
    exact ⟨_, rfl, a, C, _, rfl, by decide, hT, ha, k⟩
end
def tblF : List Str := (["word", "at", "part", "tests", "deeds", "rows", "sorts", "parts", "broken", "marked", "ahead", "behind", "blanks", "left", "text", "pieces", "lines", "need_row", "without", "bare"] : List Str) ++ (["told", "but", "written", "need_piece", "next_line", "all_pieces", "blank_rows", "remark_ahead", "next_piece", "end_of", "list_in", "broken_list", "read", "given", "old_stand", "old_past", "width", "at_hand", "past", "program"] : List Str) ++ (["tool", "stand", "go_on", "need_spot", "with_pieces", "put", "take", "change", "run", "use", "undo", "trial", "within", "used_tool", "used_width", "now", "say", "alone", "say_reach", "row_of"] : List Str) ++ (["go_back", "used_rows", "known_lays", "behind_rows", "note", "form_for", "leads_at", "look_at", "forms_to", "lays", "wanted", "parents", "met", "leads", "found", "tool_used", "known", "laid_at", "one", "other"] : List Str)
def tabT (C_LayError C_InvalidPiece C_InvalidProgram C_InvalidText C_InvalidRow C_InvalidTool C_InvalidGoal C_InvalidCommand C_Refused C_NoPiece C_NoRow : Addr) : Tz := { cls := fun i => match i with | 0 => C_LayError | 1 => C_InvalidPiece | 2 => C_InvalidProgram | 3 => C_InvalidText | 4 => C_InvalidRow | 5 => C_InvalidTool | 6 => C_InvalidGoal | 7 => C_InvalidCommand | 8 => C_Refused | 9 => C_NoPiece | _ => C_NoRow, fld := mkFld tblF, inj := mkFld_inj (by decide +kernel) }
theorem all_mk {l : PySem.W.OpenLaw} {w : World} {K : PySem.W.Frag} {h : Heap} {mg : Str → Option Value} {fa : Addr} (X : K.In h) (G : h.Ns mainGlobals mg) (hfa : mg "law" = some (.ref fa))
    {C_LayError C_InvalidPiece C_InvalidProgram C_InvalidText C_InvalidRow C_InvalidTool C_InvalidGoal C_InvalidCommand C_Refused C_NoPiece C_NoRow xN_InvalidRow fE_InvalidRow xN_InvalidText fE_InvalidText xN_InvalidProgram fE_InvalidProgram xN_InvalidPiece fE_InvalidPiece xN_NoRow fE_NoRow xN_NoPiece fE_NoPiece xN_Refused fE_Refused xN_InvalidTool fE_InvalidTool xN_InvalidCommand fE_InvalidCommand xN_InvalidGoal fE_InvalidGoal f_law_box f_law_take f_law_pick f_law_value f_law_made f_law_sorts f_law_held f_law_named f_law : Addr} {xn_InvalidRow xq_InvalidRow xn_InvalidText xq_InvalidText xn_InvalidProgram xq_InvalidProgram xn_InvalidPiece xq_InvalidPiece xn_NoRow xq_NoRow xn_NoPiece xq_NoPiece xn_Refused xq_Refused xn_InvalidTool xq_InvalidTool xn_InvalidCommand xq_InvalidCommand xn_InvalidGoal xq_InvalidGoal : Str} {xbs_InvalidRow xbm_InvalidRow xsub_InvalidRow xbs_InvalidText xbm_InvalidText xsub_InvalidText xbs_InvalidProgram xbm_InvalidProgram xsub_InvalidProgram xbs_InvalidPiece xbm_InvalidPiece xsub_InvalidPiece xbs_NoRow xbm_NoRow xsub_NoRow xbs_NoPiece xbm_NoPiece xsub_NoPiece xbs_Refused xbm_Refused xsub_Refused xbs_InvalidTool xbm_InvalidTool xsub_InvalidTool xbs_InvalidCommand xbm_InvalidCommand xsub_InvalidCommand xbs_InvalidGoal xbm_InvalidGoal xsub_InvalidGoal : List Value} {xsn_InvalidRow xsn_InvalidText xsn_InvalidProgram xsn_InvalidPiece xsn_NoRow xsn_NoPiece xsn_Refused xsn_InvalidTool xsn_InvalidCommand xsn_InvalidGoal : List Str} {xab_InvalidRow xab_InvalidText xab_InvalidProgram xab_InvalidPiece xab_NoRow xab_NoPiece xab_Refused xab_InvalidTool xab_InvalidCommand xab_InvalidGoal : Bool} {xcol_InvalidRow xcol_InvalidText xcol_InvalidProgram xcol_InvalidPiece xcol_NoRow xcol_NoPiece xcol_Refused xcol_InvalidTool xcol_InvalidCommand xcol_InvalidGoal : Option Bool} {xdd_InvalidRow eod_InvalidRow ean_InvalidRow xdd_InvalidText eod_InvalidText ean_InvalidText xdd_InvalidProgram eod_InvalidProgram ean_InvalidProgram xdd_InvalidPiece eod_InvalidPiece ean_InvalidPiece xdd_NoRow eod_NoRow ean_NoRow xdd_NoPiece eod_NoPiece ean_NoPiece xdd_Refused eod_Refused ean_Refused xdd_InvalidTool eod_InvalidTool ean_InvalidTool xdd_InvalidCommand eod_InvalidCommand ean_InvalidCommand xdd_InvalidGoal eod_InvalidGoal ean_InvalidGoal od_law_box an_law_box od_law_take an_law_take od_law_pick an_law_pick od_law_value an_law_value od_law_made an_law_made od_law_sorts an_law_sorts od_law_held an_law_held od_law_named an_law_named od_law an_law : Option Addr} {x0_InvalidRow x1_InvalidRow x2_InvalidRow x3_InvalidRow x5_InvalidRow x0_InvalidText x1_InvalidText x2_InvalidText x3_InvalidText x5_InvalidText x0_InvalidProgram x1_InvalidProgram x2_InvalidProgram x3_InvalidProgram x5_InvalidProgram x0_InvalidPiece x1_InvalidPiece x2_InvalidPiece x3_InvalidPiece x5_InvalidPiece x0_NoRow x1_NoRow x2_NoRow x3_NoRow x5_NoRow x0_NoPiece x1_NoPiece x2_NoPiece x3_NoPiece x5_NoPiece x0_Refused x1_Refused x2_Refused x3_Refused x5_Refused x0_InvalidTool x1_InvalidTool x2_InvalidTool x3_InvalidTool x5_InvalidTool x0_InvalidCommand x1_InvalidCommand x2_InvalidCommand x3_InvalidCommand x5_InvalidCommand x0_InvalidGoal x1_InvalidGoal x2_InvalidGoal x3_InvalidGoal x5_InvalidGoal : Option Value} {eoc_InvalidRow ekV_InvalidRow edc_InvalidRow epm_InvalidRow ecd_InvalidRow ect_InvalidRow eoc_InvalidText ekV_InvalidText edc_InvalidText epm_InvalidText ecd_InvalidText ect_InvalidText eoc_InvalidProgram ekV_InvalidProgram edc_InvalidProgram epm_InvalidProgram ecd_InvalidProgram ect_InvalidProgram eoc_InvalidPiece ekV_InvalidPiece edc_InvalidPiece epm_InvalidPiece ecd_InvalidPiece ect_InvalidPiece eoc_NoRow ekV_NoRow edc_NoRow epm_NoRow ecd_NoRow ect_NoRow eoc_NoPiece ekV_NoPiece edc_NoPiece epm_NoPiece ecd_NoPiece ect_NoPiece eoc_Refused ekV_Refused edc_Refused epm_Refused ecd_Refused ect_Refused eoc_InvalidTool ekV_InvalidTool edc_InvalidTool epm_InvalidTool ecd_InvalidTool ect_InvalidTool eoc_InvalidCommand ekV_InvalidCommand edc_InvalidCommand epm_InvalidCommand ecd_InvalidCommand ect_InvalidCommand eoc_InvalidGoal ekV_InvalidGoal edc_InvalidGoal epm_InvalidGoal ecd_InvalidGoal ect_InvalidGoal oc_law_box kV_law_box dc_law_box pm_law_box cd_law_box ct_law_box oc_law_take kV_law_take dc_law_take pm_law_take cd_law_take ct_law_take oc_law_pick kV_law_pick dc_law_pick pm_law_pick cd_law_pick ct_law_pick oc_law_value kV_law_value dc_law_value pm_law_value cd_law_value ct_law_value oc_law_made kV_law_made dc_law_made pm_law_made cd_law_made ct_law_made oc_law_sorts kV_law_sorts dc_law_sorts pm_law_sorts cd_law_sorts ct_law_sorts oc_law_held kV_law_held dc_law_held pm_law_held cd_law_held ct_law_held oc_law_named kV_law_named dc_law_named pm_law_named cd_law_named ct_law_named oc_law kV_law dc_law pm_law cd_law ct_law : Value} {esl_InvalidRow esl_InvalidText esl_InvalidProgram esl_InvalidPiece esl_NoRow esl_NoPiece esl_Refused esl_InvalidTool esl_InvalidCommand esl_InvalidGoal sl_law_box sl_law_take sl_law_pick sl_law_value sl_law_made sl_law_sorts sl_law_held sl_law_named sl_law : Array (Option Value)}
    (aC_LayError : PySem.W.nsIn K mainGlobals "LayError" = some (some (.ref C_LayError)))
    (aC_InvalidPiece : PySem.W.nsIn K mainGlobals "InvalidPiece" = some (some (.ref C_InvalidPiece)))
    (aC_InvalidProgram : PySem.W.nsIn K mainGlobals "InvalidProgram" = some (some (.ref C_InvalidProgram)))
    (aC_InvalidText : PySem.W.nsIn K mainGlobals "InvalidText" = some (some (.ref C_InvalidText)))
    (aC_InvalidRow : PySem.W.nsIn K mainGlobals "InvalidRow" = some (some (.ref C_InvalidRow)))
    (aC_InvalidTool : PySem.W.nsIn K mainGlobals "InvalidTool" = some (some (.ref C_InvalidTool)))
    (aC_InvalidGoal : PySem.W.nsIn K mainGlobals "InvalidGoal" = some (some (.ref C_InvalidGoal)))
    (aC_InvalidCommand : PySem.W.nsIn K mainGlobals "InvalidCommand" = some (some (.ref C_InvalidCommand)))
    (aC_Refused : PySem.W.nsIn K mainGlobals "Refused" = some (some (.ref C_Refused)))
    (aC_NoPiece : PySem.W.nsIn K mainGlobals "NoPiece" = some (some (.ref C_NoPiece)))
    (aC_NoRow : PySem.W.nsIn K mainGlobals "NoRow" = some (some (.ref C_NoRow)))
    (z_ValueError : PySem.W.nsIn K mainGlobals "ValueError" = some none)
    (z_abs : PySem.W.nsIn K mainGlobals "abs" = some none)
    (z_enumerate : PySem.W.nsIn K mainGlobals "enumerate" = some none)
    (z_int : PySem.W.nsIn K mainGlobals "int" = some none)
    (z_isinstance : PySem.W.nsIn K mainGlobals "isinstance" = some none)
    (z_len : PySem.W.nsIn K mainGlobals "len" = some none)
    (z_max : PySem.W.nsIn K mainGlobals "max" = some none)
    (z_min : PySem.W.nsIn K mainGlobals "min" = some none)
    (z_range : PySem.W.nsIn K mainGlobals "range" = some none)
    (z_repr : PySem.W.nsIn K mainGlobals "repr" = some none)
    (xL_InvalidRow : K.lookup C_InvalidRow = some (excClassObj xn_InvalidRow xq_InvalidRow C_InvalidRow xN_InvalidRow xbs_InvalidRow xbm_InvalidRow true xsn_InvalidRow xsub_InvalidRow xab_InvalidRow xcol_InvalidRow xdd_InvalidRow x0_InvalidRow x1_InvalidRow x2_InvalidRow x3_InvalidRow x5_InvalidRow "ValueError.__new__"))
    (xr_InvalidRow : PySem.HandSPX.refsVE xbm_InvalidRow = true)
    (esa_InvalidRow : PySem.W.findIn K (.ref C_InvalidRow) "__setattr__" = some (some (.builtin "object.__setattr__")))
    (eex_InvalidRow : PySem.W.subIn K (.ref C_InvalidRow) (.type "BaseException") = some true)
    (ety_InvalidRow : PySem.W.typeIn K (.ref C_InvalidRow) = some (.type "type"))
    (ekc_InvalidRow : PySem.W.keepIn K (.ref C_InvalidRow) = true)
    (eno_InvalidRow : PySem.W.findIn K (.ref C_InvalidRow) "part" = some none)
    (ea_InvalidRow : PySem.W.findIn K (.ref C_InvalidRow) "__init__" = some (some (.ref fE_InvalidRow)))
    (et_InvalidRow : PySem.W.typeIn K (.ref fE_InvalidRow) = some (.type "function"))
    (el_InvalidRow : K.lookup fE_InvalidRow = some ⟨eoc_InvalidRow, eod_InvalidRow, .func (PySem.W.fnOf "__init__" "InvalidRow.__init__" (defArgs st_InvalidRowD_initD) (defBody st_InvalidRowD_initD) (defScope st_InvalidRowD_initD) .none ekV_InvalidRow edc_InvalidRow epm_InvalidRow ean_InvalidRow ecd_InvalidRow ect_InvalidRow), esl_InvalidRow⟩)
    (ec_InvalidRow : PySem.W.codeIn K ecd_InvalidRow "InvalidRow.__init__" = true)
    (ek_InvalidRow : PySem.W.keepIn K (.ref fE_InvalidRow) = true)
    (xL_InvalidText : K.lookup C_InvalidText = some (excClassObj xn_InvalidText xq_InvalidText C_InvalidText xN_InvalidText xbs_InvalidText xbm_InvalidText true xsn_InvalidText xsub_InvalidText xab_InvalidText xcol_InvalidText xdd_InvalidText x0_InvalidText x1_InvalidText x2_InvalidText x3_InvalidText x5_InvalidText "ValueError.__new__"))
    (xr_InvalidText : PySem.HandSPX.refsVE xbm_InvalidText = true)
    (esa_InvalidText : PySem.W.findIn K (.ref C_InvalidText) "__setattr__" = some (some (.builtin "object.__setattr__")))
    (eex_InvalidText : PySem.W.subIn K (.ref C_InvalidText) (.type "BaseException") = some true)
    (ety_InvalidText : PySem.W.typeIn K (.ref C_InvalidText) = some (.type "type"))
    (ekc_InvalidText : PySem.W.keepIn K (.ref C_InvalidText) = true)
    (eno_InvalidText : PySem.W.findIn K (.ref C_InvalidText) "at" = some none)
    (ea_InvalidText : PySem.W.findIn K (.ref C_InvalidText) "__init__" = some (some (.ref fE_InvalidText)))
    (et_InvalidText : PySem.W.typeIn K (.ref fE_InvalidText) = some (.type "function"))
    (el_InvalidText : K.lookup fE_InvalidText = some ⟨eoc_InvalidText, eod_InvalidText, .func (PySem.W.fnOf "__init__" "InvalidText.__init__" (defArgs st_InvalidTextD_initD) (defBody st_InvalidTextD_initD) (defScope st_InvalidTextD_initD) .none ekV_InvalidText edc_InvalidText epm_InvalidText ean_InvalidText ecd_InvalidText ect_InvalidText), esl_InvalidText⟩)
    (ec_InvalidText : PySem.W.codeIn K ecd_InvalidText "InvalidText.__init__" = true)
    (ek_InvalidText : PySem.W.keepIn K (.ref fE_InvalidText) = true)
    (xL_InvalidProgram : K.lookup C_InvalidProgram = some (excClassObj xn_InvalidProgram xq_InvalidProgram C_InvalidProgram xN_InvalidProgram xbs_InvalidProgram xbm_InvalidProgram true xsn_InvalidProgram xsub_InvalidProgram xab_InvalidProgram xcol_InvalidProgram xdd_InvalidProgram x0_InvalidProgram x1_InvalidProgram x2_InvalidProgram x3_InvalidProgram x5_InvalidProgram "ValueError.__new__"))
    (xr_InvalidProgram : PySem.HandSPX.refsVE xbm_InvalidProgram = true)
    (esa_InvalidProgram : PySem.W.findIn K (.ref C_InvalidProgram) "__setattr__" = some (some (.builtin "object.__setattr__")))
    (eex_InvalidProgram : PySem.W.subIn K (.ref C_InvalidProgram) (.type "BaseException") = some true)
    (ety_InvalidProgram : PySem.W.typeIn K (.ref C_InvalidProgram) = some (.type "type"))
    (ekc_InvalidProgram : PySem.W.keepIn K (.ref C_InvalidProgram) = true)
    (eno_InvalidProgram : PySem.W.findIn K (.ref C_InvalidProgram) "at" = some none)
    (ea_InvalidProgram : PySem.W.findIn K (.ref C_InvalidProgram) "__init__" = some (some (.ref fE_InvalidProgram)))
    (et_InvalidProgram : PySem.W.typeIn K (.ref fE_InvalidProgram) = some (.type "function"))
    (el_InvalidProgram : K.lookup fE_InvalidProgram = some ⟨eoc_InvalidProgram, eod_InvalidProgram, .func (PySem.W.fnOf "__init__" "InvalidProgram.__init__" (defArgs st_InvalidProgramD_initD) (defBody st_InvalidProgramD_initD) (defScope st_InvalidProgramD_initD) .none ekV_InvalidProgram edc_InvalidProgram epm_InvalidProgram ean_InvalidProgram ecd_InvalidProgram ect_InvalidProgram), esl_InvalidProgram⟩)
    (ec_InvalidProgram : PySem.W.codeIn K ecd_InvalidProgram "InvalidProgram.__init__" = true)
    (ek_InvalidProgram : PySem.W.keepIn K (.ref fE_InvalidProgram) = true)
    (xL_InvalidPiece : K.lookup C_InvalidPiece = some (excClassObj xn_InvalidPiece xq_InvalidPiece C_InvalidPiece xN_InvalidPiece xbs_InvalidPiece xbm_InvalidPiece true xsn_InvalidPiece xsub_InvalidPiece xab_InvalidPiece xcol_InvalidPiece xdd_InvalidPiece x0_InvalidPiece x1_InvalidPiece x2_InvalidPiece x3_InvalidPiece x5_InvalidPiece "ValueError.__new__"))
    (xr_InvalidPiece : PySem.HandSPX.refsVE xbm_InvalidPiece = true)
    (esa_InvalidPiece : PySem.W.findIn K (.ref C_InvalidPiece) "__setattr__" = some (some (.builtin "object.__setattr__")))
    (eex_InvalidPiece : PySem.W.subIn K (.ref C_InvalidPiece) (.type "BaseException") = some true)
    (ety_InvalidPiece : PySem.W.typeIn K (.ref C_InvalidPiece) = some (.type "type"))
    (ekc_InvalidPiece : PySem.W.keepIn K (.ref C_InvalidPiece) = true)
    (eno_InvalidPiece : PySem.W.findIn K (.ref C_InvalidPiece) "word" = some none)
    (ea_InvalidPiece : PySem.W.findIn K (.ref C_InvalidPiece) "__init__" = some (some (.ref fE_InvalidPiece)))
    (et_InvalidPiece : PySem.W.typeIn K (.ref fE_InvalidPiece) = some (.type "function"))
    (el_InvalidPiece : K.lookup fE_InvalidPiece = some ⟨eoc_InvalidPiece, eod_InvalidPiece, .func (PySem.W.fnOf "__init__" "InvalidPiece.__init__" (defArgs st_InvalidPieceD_initD) (defBody st_InvalidPieceD_initD) (defScope st_InvalidPieceD_initD) .none ekV_InvalidPiece edc_InvalidPiece epm_InvalidPiece ean_InvalidPiece ecd_InvalidPiece ect_InvalidPiece), esl_InvalidPiece⟩)
    (ec_InvalidPiece : PySem.W.codeIn K ecd_InvalidPiece "InvalidPiece.__init__" = true)
    (ek_InvalidPiece : PySem.W.keepIn K (.ref fE_InvalidPiece) = true)
    (xL_NoRow : K.lookup C_NoRow = some (excClassObj xn_NoRow xq_NoRow C_NoRow xN_NoRow xbs_NoRow xbm_NoRow true xsn_NoRow xsub_NoRow xab_NoRow xcol_NoRow xdd_NoRow x0_NoRow x1_NoRow x2_NoRow x3_NoRow x5_NoRow "ValueError.__new__"))
    (xr_NoRow : PySem.HandSPX.refsVE xbm_NoRow = true)
    (esa_NoRow : PySem.W.findIn K (.ref C_NoRow) "__setattr__" = some (some (.builtin "object.__setattr__")))
    (eex_NoRow : PySem.W.subIn K (.ref C_NoRow) (.type "BaseException") = some true)
    (ety_NoRow : PySem.W.typeIn K (.ref C_NoRow) = some (.type "type"))
    (ekc_NoRow : PySem.W.keepIn K (.ref C_NoRow) = true)
    (eno_NoRow : PySem.W.findIn K (.ref C_NoRow) "at" = some none)
    (ea_NoRow : PySem.W.findIn K (.ref C_NoRow) "__init__" = some (some (.ref fE_NoRow)))
    (et_NoRow : PySem.W.typeIn K (.ref fE_NoRow) = some (.type "function"))
    (el_NoRow : K.lookup fE_NoRow = some ⟨eoc_NoRow, eod_NoRow, .func (PySem.W.fnOf "__init__" "NoRow.__init__" (defArgs st_NoRowD_initD) (defBody st_NoRowD_initD) (defScope st_NoRowD_initD) .none ekV_NoRow edc_NoRow epm_NoRow ean_NoRow ecd_NoRow ect_NoRow), esl_NoRow⟩)
    (ec_NoRow : PySem.W.codeIn K ecd_NoRow "NoRow.__init__" = true)
    (ek_NoRow : PySem.W.keepIn K (.ref fE_NoRow) = true)
    (xL_NoPiece : K.lookup C_NoPiece = some (excClassObj xn_NoPiece xq_NoPiece C_NoPiece xN_NoPiece xbs_NoPiece xbm_NoPiece true xsn_NoPiece xsub_NoPiece xab_NoPiece xcol_NoPiece xdd_NoPiece x0_NoPiece x1_NoPiece x2_NoPiece x3_NoPiece x5_NoPiece "ValueError.__new__"))
    (xr_NoPiece : PySem.HandSPX.refsVE xbm_NoPiece = true)
    (esa_NoPiece : PySem.W.findIn K (.ref C_NoPiece) "__setattr__" = some (some (.builtin "object.__setattr__")))
    (eex_NoPiece : PySem.W.subIn K (.ref C_NoPiece) (.type "BaseException") = some true)
    (ety_NoPiece : PySem.W.typeIn K (.ref C_NoPiece) = some (.type "type"))
    (ekc_NoPiece : PySem.W.keepIn K (.ref C_NoPiece) = true)
    (eno_NoPiece : PySem.W.findIn K (.ref C_NoPiece) "at" = some none)
    (ea_NoPiece : PySem.W.findIn K (.ref C_NoPiece) "__init__" = some (some (.ref fE_NoPiece)))
    (et_NoPiece : PySem.W.typeIn K (.ref fE_NoPiece) = some (.type "function"))
    (el_NoPiece : K.lookup fE_NoPiece = some ⟨eoc_NoPiece, eod_NoPiece, .func (PySem.W.fnOf "__init__" "NoPiece.__init__" (defArgs st_NoPieceD_initD) (defBody st_NoPieceD_initD) (defScope st_NoPieceD_initD) .none ekV_NoPiece edc_NoPiece epm_NoPiece ean_NoPiece ecd_NoPiece ect_NoPiece), esl_NoPiece⟩)
    (ec_NoPiece : PySem.W.codeIn K ecd_NoPiece "NoPiece.__init__" = true)
    (ek_NoPiece : PySem.W.keepIn K (.ref fE_NoPiece) = true)
    (xL_Refused : K.lookup C_Refused = some (excClassObj xn_Refused xq_Refused C_Refused xN_Refused xbs_Refused xbm_Refused true xsn_Refused xsub_Refused xab_Refused xcol_Refused xdd_Refused x0_Refused x1_Refused x2_Refused x3_Refused x5_Refused "ValueError.__new__"))
    (xr_Refused : PySem.HandSPX.refsVE xbm_Refused = true)
    (esa_Refused : PySem.W.findIn K (.ref C_Refused) "__setattr__" = some (some (.builtin "object.__setattr__")))
    (eex_Refused : PySem.W.subIn K (.ref C_Refused) (.type "BaseException") = some true)
    (ety_Refused : PySem.W.typeIn K (.ref C_Refused) = some (.type "type"))
    (ekc_Refused : PySem.W.keepIn K (.ref C_Refused) = true)
    (eno_Refused : PySem.W.findIn K (.ref C_Refused) "word" = some none)
    (ea_Refused : PySem.W.findIn K (.ref C_Refused) "__init__" = some (some (.ref fE_Refused)))
    (et_Refused : PySem.W.typeIn K (.ref fE_Refused) = some (.type "function"))
    (el_Refused : K.lookup fE_Refused = some ⟨eoc_Refused, eod_Refused, .func (PySem.W.fnOf "__init__" "Refused.__init__" (defArgs st_RefusedD_initD) (defBody st_RefusedD_initD) (defScope st_RefusedD_initD) .none ekV_Refused edc_Refused epm_Refused ean_Refused ecd_Refused ect_Refused), esl_Refused⟩)
    (ec_Refused : PySem.W.codeIn K ecd_Refused "Refused.__init__" = true)
    (ek_Refused : PySem.W.keepIn K (.ref fE_Refused) = true)
    (xL_InvalidTool : K.lookup C_InvalidTool = some (excClassObj xn_InvalidTool xq_InvalidTool C_InvalidTool xN_InvalidTool xbs_InvalidTool xbm_InvalidTool true xsn_InvalidTool xsub_InvalidTool xab_InvalidTool xcol_InvalidTool xdd_InvalidTool x0_InvalidTool x1_InvalidTool x2_InvalidTool x3_InvalidTool x5_InvalidTool "ValueError.__new__"))
    (xr_InvalidTool : PySem.HandSPX.refsVE xbm_InvalidTool = true)
    (esa_InvalidTool : PySem.W.findIn K (.ref C_InvalidTool) "__setattr__" = some (some (.builtin "object.__setattr__")))
    (eex_InvalidTool : PySem.W.subIn K (.ref C_InvalidTool) (.type "BaseException") = some true)
    (ety_InvalidTool : PySem.W.typeIn K (.ref C_InvalidTool) = some (.type "type"))
    (ekc_InvalidTool : PySem.W.keepIn K (.ref C_InvalidTool) = true)
    (eno_InvalidTool : PySem.W.findIn K (.ref C_InvalidTool) "at" = some none)
    (ea_InvalidTool : PySem.W.findIn K (.ref C_InvalidTool) "__init__" = some (some (.ref fE_InvalidTool)))
    (et_InvalidTool : PySem.W.typeIn K (.ref fE_InvalidTool) = some (.type "function"))
    (el_InvalidTool : K.lookup fE_InvalidTool = some ⟨eoc_InvalidTool, eod_InvalidTool, .func (PySem.W.fnOf "__init__" "InvalidTool.__init__" (defArgs st_InvalidToolD_initD) (defBody st_InvalidToolD_initD) (defScope st_InvalidToolD_initD) .none ekV_InvalidTool edc_InvalidTool epm_InvalidTool ean_InvalidTool ecd_InvalidTool ect_InvalidTool), esl_InvalidTool⟩)
    (ec_InvalidTool : PySem.W.codeIn K ecd_InvalidTool "InvalidTool.__init__" = true)
    (ek_InvalidTool : PySem.W.keepIn K (.ref fE_InvalidTool) = true)
    (xL_InvalidCommand : K.lookup C_InvalidCommand = some (excClassObj xn_InvalidCommand xq_InvalidCommand C_InvalidCommand xN_InvalidCommand xbs_InvalidCommand xbm_InvalidCommand true xsn_InvalidCommand xsub_InvalidCommand xab_InvalidCommand xcol_InvalidCommand xdd_InvalidCommand x0_InvalidCommand x1_InvalidCommand x2_InvalidCommand x3_InvalidCommand x5_InvalidCommand "ValueError.__new__"))
    (xr_InvalidCommand : PySem.HandSPX.refsVE xbm_InvalidCommand = true)
    (esa_InvalidCommand : PySem.W.findIn K (.ref C_InvalidCommand) "__setattr__" = some (some (.builtin "object.__setattr__")))
    (eex_InvalidCommand : PySem.W.subIn K (.ref C_InvalidCommand) (.type "BaseException") = some true)
    (ety_InvalidCommand : PySem.W.typeIn K (.ref C_InvalidCommand) = some (.type "type"))
    (ekc_InvalidCommand : PySem.W.keepIn K (.ref C_InvalidCommand) = true)
    (ea_InvalidCommand : PySem.W.findIn K (.ref C_InvalidCommand) "__init__" = some (some (.ref fE_InvalidCommand)))
    (et_InvalidCommand : PySem.W.typeIn K (.ref fE_InvalidCommand) = some (.type "function"))
    (el_InvalidCommand : K.lookup fE_InvalidCommand = some ⟨eoc_InvalidCommand, eod_InvalidCommand, .func (PySem.W.fnOf "__init__" "InvalidCommand.__init__" (defArgs st_InvalidCommandD_initD) (defBody st_InvalidCommandD_initD) (defScope st_InvalidCommandD_initD) .none ekV_InvalidCommand edc_InvalidCommand epm_InvalidCommand ean_InvalidCommand ecd_InvalidCommand ect_InvalidCommand), esl_InvalidCommand⟩)
    (ec_InvalidCommand : PySem.W.codeIn K ecd_InvalidCommand "InvalidCommand.__init__" = true)
    (ek_InvalidCommand : PySem.W.keepIn K (.ref fE_InvalidCommand) = true)
    (xL_InvalidGoal : K.lookup C_InvalidGoal = some (excClassObj xn_InvalidGoal xq_InvalidGoal C_InvalidGoal xN_InvalidGoal xbs_InvalidGoal xbm_InvalidGoal true xsn_InvalidGoal xsub_InvalidGoal xab_InvalidGoal xcol_InvalidGoal xdd_InvalidGoal x0_InvalidGoal x1_InvalidGoal x2_InvalidGoal x3_InvalidGoal x5_InvalidGoal "ValueError.__new__"))
    (xr_InvalidGoal : PySem.HandSPX.refsVE xbm_InvalidGoal = true)
    (esa_InvalidGoal : PySem.W.findIn K (.ref C_InvalidGoal) "__setattr__" = some (some (.builtin "object.__setattr__")))
    (eex_InvalidGoal : PySem.W.subIn K (.ref C_InvalidGoal) (.type "BaseException") = some true)
    (ety_InvalidGoal : PySem.W.typeIn K (.ref C_InvalidGoal) = some (.type "type"))
    (ekc_InvalidGoal : PySem.W.keepIn K (.ref C_InvalidGoal) = true)
    (ea_InvalidGoal : PySem.W.findIn K (.ref C_InvalidGoal) "__init__" = some (some (.ref fE_InvalidGoal)))
    (et_InvalidGoal : PySem.W.typeIn K (.ref fE_InvalidGoal) = some (.type "function"))
    (el_InvalidGoal : K.lookup fE_InvalidGoal = some ⟨eoc_InvalidGoal, eod_InvalidGoal, .func (PySem.W.fnOf "__init__" "InvalidGoal.__init__" (defArgs st_InvalidGoalD_initD) (defBody st_InvalidGoalD_initD) (defScope st_InvalidGoalD_initD) .none ekV_InvalidGoal edc_InvalidGoal epm_InvalidGoal ean_InvalidGoal ecd_InvalidGoal ect_InvalidGoal), esl_InvalidGoal⟩)
    (ec_InvalidGoal : PySem.W.codeIn K ecd_InvalidGoal "InvalidGoal.__init__" = true)
    (ek_InvalidGoal : PySem.W.keepIn K (.ref fE_InvalidGoal) = true)
    (bga : PySem.W.specialIn K (.ref C_LayError) "__getattribute__" = some (some (.builtin "type.__getattribute__")))
    (brd : PySem.W.readsIn K C_LayError (.type "type") = true)
    (bty : PySem.W.typeIn K (.ref C_LayError) = some (.type "type"))
    (bvV : PySem.W.findCls K (.ref C_LayError) (.type "type") "__init__" = some (.val (.builtin "ValueError.__init__")))
    (ve_hn : PySem.W.specialIn K (.builtin "object.__class__") "__get__" = some (some (.builtin "getset_descriptor.__get__")))
    (ve_ht : PySem.W.takesIn K (.builtin "object.__class__") = some true)
    (ve_hg_InvalidPiece : PySem.W.findIn K (.ref C_InvalidPiece) "__getattribute__" = some (some (.builtin "BaseException.__getattribute__")))
    (ve_hk_InvalidPiece : PySem.W.findIn K (.ref C_InvalidPiece) "__getattr__" = some none)
    (ve_hd_InvalidPiece : PySem.W.hasDictIn K C_InvalidPiece = true)
    (ve_ha_InvalidPiece : PySem.W.findIn K (.ref C_InvalidPiece) "__class__" = some (some (.builtin "object.__class__")))
    (ve_hm_InvalidPiece : PySem.W.mroIn K C_InvalidPiece (.type "object") = some true)
    (ve_hg_InvalidProgram : PySem.W.findIn K (.ref C_InvalidProgram) "__getattribute__" = some (some (.builtin "BaseException.__getattribute__")))
    (ve_hk_InvalidProgram : PySem.W.findIn K (.ref C_InvalidProgram) "__getattr__" = some none)
    (ve_hd_InvalidProgram : PySem.W.hasDictIn K C_InvalidProgram = true)
    (ve_ha_InvalidProgram : PySem.W.findIn K (.ref C_InvalidProgram) "__class__" = some (some (.builtin "object.__class__")))
    (ve_hm_InvalidProgram : PySem.W.mroIn K C_InvalidProgram (.type "object") = some true)
    (ve_hg_InvalidText : PySem.W.findIn K (.ref C_InvalidText) "__getattribute__" = some (some (.builtin "BaseException.__getattribute__")))
    (ve_hk_InvalidText : PySem.W.findIn K (.ref C_InvalidText) "__getattr__" = some none)
    (ve_hd_InvalidText : PySem.W.hasDictIn K C_InvalidText = true)
    (ve_ha_InvalidText : PySem.W.findIn K (.ref C_InvalidText) "__class__" = some (some (.builtin "object.__class__")))
    (ve_hm_InvalidText : PySem.W.mroIn K C_InvalidText (.type "object") = some true)
    (ve_hg_InvalidRow : PySem.W.findIn K (.ref C_InvalidRow) "__getattribute__" = some (some (.builtin "BaseException.__getattribute__")))
    (ve_hk_InvalidRow : PySem.W.findIn K (.ref C_InvalidRow) "__getattr__" = some none)
    (ve_hd_InvalidRow : PySem.W.hasDictIn K C_InvalidRow = true)
    (ve_ha_InvalidRow : PySem.W.findIn K (.ref C_InvalidRow) "__class__" = some (some (.builtin "object.__class__")))
    (ve_hm_InvalidRow : PySem.W.mroIn K C_InvalidRow (.type "object") = some true)
    (ve_hg_InvalidTool : PySem.W.findIn K (.ref C_InvalidTool) "__getattribute__" = some (some (.builtin "BaseException.__getattribute__")))
    (ve_hk_InvalidTool : PySem.W.findIn K (.ref C_InvalidTool) "__getattr__" = some none)
    (ve_hd_InvalidTool : PySem.W.hasDictIn K C_InvalidTool = true)
    (ve_ha_InvalidTool : PySem.W.findIn K (.ref C_InvalidTool) "__class__" = some (some (.builtin "object.__class__")))
    (ve_hm_InvalidTool : PySem.W.mroIn K C_InvalidTool (.type "object") = some true)
    (ve_hg_InvalidGoal : PySem.W.findIn K (.ref C_InvalidGoal) "__getattribute__" = some (some (.builtin "BaseException.__getattribute__")))
    (ve_hk_InvalidGoal : PySem.W.findIn K (.ref C_InvalidGoal) "__getattr__" = some none)
    (ve_hd_InvalidGoal : PySem.W.hasDictIn K C_InvalidGoal = true)
    (ve_ha_InvalidGoal : PySem.W.findIn K (.ref C_InvalidGoal) "__class__" = some (some (.builtin "object.__class__")))
    (ve_hm_InvalidGoal : PySem.W.mroIn K C_InvalidGoal (.type "object") = some true)
    (ve_hg_InvalidCommand : PySem.W.findIn K (.ref C_InvalidCommand) "__getattribute__" = some (some (.builtin "BaseException.__getattribute__")))
    (ve_hk_InvalidCommand : PySem.W.findIn K (.ref C_InvalidCommand) "__getattr__" = some none)
    (ve_hd_InvalidCommand : PySem.W.hasDictIn K C_InvalidCommand = true)
    (ve_ha_InvalidCommand : PySem.W.findIn K (.ref C_InvalidCommand) "__class__" = some (some (.builtin "object.__class__")))
    (ve_hm_InvalidCommand : PySem.W.mroIn K C_InvalidCommand (.type "object") = some true)
    (ve_hg_Refused : PySem.W.findIn K (.ref C_Refused) "__getattribute__" = some (some (.builtin "BaseException.__getattribute__")))
    (ve_hk_Refused : PySem.W.findIn K (.ref C_Refused) "__getattr__" = some none)
    (ve_hd_Refused : PySem.W.hasDictIn K C_Refused = true)
    (ve_ha_Refused : PySem.W.findIn K (.ref C_Refused) "__class__" = some (some (.builtin "object.__class__")))
    (ve_hm_Refused : PySem.W.mroIn K C_Refused (.type "object") = some true)
    (ve_hg_NoPiece : PySem.W.findIn K (.ref C_NoPiece) "__getattribute__" = some (some (.builtin "BaseException.__getattribute__")))
    (ve_hk_NoPiece : PySem.W.findIn K (.ref C_NoPiece) "__getattr__" = some none)
    (ve_hd_NoPiece : PySem.W.hasDictIn K C_NoPiece = true)
    (ve_ha_NoPiece : PySem.W.findIn K (.ref C_NoPiece) "__class__" = some (some (.builtin "object.__class__")))
    (ve_hm_NoPiece : PySem.W.mroIn K C_NoPiece (.type "object") = some true)
    (ve_hg_NoRow : PySem.W.findIn K (.ref C_NoRow) "__getattribute__" = some (some (.builtin "BaseException.__getattribute__")))
    (ve_hk_NoRow : PySem.W.findIn K (.ref C_NoRow) "__getattr__" = some none)
    (ve_hd_NoRow : PySem.W.hasDictIn K C_NoRow = true)
    (ve_ha_NoRow : PySem.W.findIn K (.ref C_NoRow) "__class__" = some (some (.builtin "object.__class__")))
    (ve_hm_NoRow : PySem.W.mroIn K C_NoRow (.type "object") = some true)
    (ki_InvalidText_InvalidPiece : PySem.W.kitOne K (.ref C_InvalidPiece) (.ref C_InvalidText) = some false)
    (ki_InvalidText_InvalidProgram : PySem.W.kitOne K (.ref C_InvalidProgram) (.ref C_InvalidText) = some false)
    (ki_InvalidText_InvalidText : PySem.W.kitOne K (.ref C_InvalidText) (.ref C_InvalidText) = some true)
    (ki_InvalidText_InvalidRow : PySem.W.kitOne K (.ref C_InvalidRow) (.ref C_InvalidText) = some false)
    (ki_InvalidText_InvalidTool : PySem.W.kitOne K (.ref C_InvalidTool) (.ref C_InvalidText) = some false)
    (ki_InvalidText_InvalidGoal : PySem.W.kitOne K (.ref C_InvalidGoal) (.ref C_InvalidText) = some false)
    (ki_InvalidText_InvalidCommand : PySem.W.kitOne K (.ref C_InvalidCommand) (.ref C_InvalidText) = some false)
    (ki_InvalidText_Refused : PySem.W.kitOne K (.ref C_Refused) (.ref C_InvalidText) = some false)
    (ki_InvalidText_NoPiece : PySem.W.kitOne K (.ref C_NoPiece) (.ref C_InvalidText) = some false)
    (ki_InvalidText_NoRow : PySem.W.kitOne K (.ref C_NoRow) (.ref C_InvalidText) = some false)
    (ki_InvalidProgram_InvalidPiece : PySem.W.kitOne K (.ref C_InvalidPiece) (.ref C_InvalidProgram) = some false)
    (ki_InvalidProgram_InvalidProgram : PySem.W.kitOne K (.ref C_InvalidProgram) (.ref C_InvalidProgram) = some true)
    (ki_InvalidProgram_InvalidText : PySem.W.kitOne K (.ref C_InvalidText) (.ref C_InvalidProgram) = some false)
    (ki_InvalidProgram_InvalidRow : PySem.W.kitOne K (.ref C_InvalidRow) (.ref C_InvalidProgram) = some false)
    (ki_InvalidProgram_InvalidTool : PySem.W.kitOne K (.ref C_InvalidTool) (.ref C_InvalidProgram) = some false)
    (ki_InvalidProgram_InvalidGoal : PySem.W.kitOne K (.ref C_InvalidGoal) (.ref C_InvalidProgram) = some false)
    (ki_InvalidProgram_InvalidCommand : PySem.W.kitOne K (.ref C_InvalidCommand) (.ref C_InvalidProgram) = some false)
    (ki_InvalidProgram_Refused : PySem.W.kitOne K (.ref C_Refused) (.ref C_InvalidProgram) = some false)
    (ki_InvalidProgram_NoPiece : PySem.W.kitOne K (.ref C_NoPiece) (.ref C_InvalidProgram) = some false)
    (ki_InvalidProgram_NoRow : PySem.W.kitOne K (.ref C_NoRow) (.ref C_InvalidProgram) = some false)
    (ki_InvalidPiece_InvalidPiece : PySem.W.kitOne K (.ref C_InvalidPiece) (.ref C_InvalidPiece) = some true)
    (ki_InvalidPiece_InvalidProgram : PySem.W.kitOne K (.ref C_InvalidProgram) (.ref C_InvalidPiece) = some false)
    (ki_InvalidPiece_InvalidText : PySem.W.kitOne K (.ref C_InvalidText) (.ref C_InvalidPiece) = some false)
    (ki_InvalidPiece_InvalidRow : PySem.W.kitOne K (.ref C_InvalidRow) (.ref C_InvalidPiece) = some false)
    (ki_InvalidPiece_InvalidTool : PySem.W.kitOne K (.ref C_InvalidTool) (.ref C_InvalidPiece) = some false)
    (ki_InvalidPiece_InvalidGoal : PySem.W.kitOne K (.ref C_InvalidGoal) (.ref C_InvalidPiece) = some false)
    (ki_InvalidPiece_InvalidCommand : PySem.W.kitOne K (.ref C_InvalidCommand) (.ref C_InvalidPiece) = some false)
    (ki_InvalidPiece_Refused : PySem.W.kitOne K (.ref C_Refused) (.ref C_InvalidPiece) = some false)
    (ki_InvalidPiece_NoPiece : PySem.W.kitOne K (.ref C_NoPiece) (.ref C_InvalidPiece) = some false)
    (ki_InvalidPiece_NoRow : PySem.W.kitOne K (.ref C_NoRow) (.ref C_InvalidPiece) = some false)
    (ki_Refused_InvalidPiece : PySem.W.kitOne K (.ref C_InvalidPiece) (.ref C_Refused) = some false)
    (ki_Refused_InvalidProgram : PySem.W.kitOne K (.ref C_InvalidProgram) (.ref C_Refused) = some false)
    (ki_Refused_InvalidText : PySem.W.kitOne K (.ref C_InvalidText) (.ref C_Refused) = some false)
    (ki_Refused_InvalidRow : PySem.W.kitOne K (.ref C_InvalidRow) (.ref C_Refused) = some false)
    (ki_Refused_InvalidTool : PySem.W.kitOne K (.ref C_InvalidTool) (.ref C_Refused) = some false)
    (ki_Refused_InvalidGoal : PySem.W.kitOne K (.ref C_InvalidGoal) (.ref C_Refused) = some false)
    (ki_Refused_InvalidCommand : PySem.W.kitOne K (.ref C_InvalidCommand) (.ref C_Refused) = some false)
    (ki_Refused_Refused : PySem.W.kitOne K (.ref C_Refused) (.ref C_Refused) = some true)
    (ki_Refused_NoPiece : PySem.W.kitOne K (.ref C_NoPiece) (.ref C_Refused) = some false)
    (ki_Refused_NoRow : PySem.W.kitOne K (.ref C_NoRow) (.ref C_Refused) = some false)
    (ki_InvalidTool_InvalidPiece : PySem.W.kitOne K (.ref C_InvalidPiece) (.ref C_InvalidTool) = some false)
    (ki_InvalidTool_InvalidProgram : PySem.W.kitOne K (.ref C_InvalidProgram) (.ref C_InvalidTool) = some false)
    (ki_InvalidTool_InvalidText : PySem.W.kitOne K (.ref C_InvalidText) (.ref C_InvalidTool) = some false)
    (ki_InvalidTool_InvalidRow : PySem.W.kitOne K (.ref C_InvalidRow) (.ref C_InvalidTool) = some false)
    (ki_InvalidTool_InvalidTool : PySem.W.kitOne K (.ref C_InvalidTool) (.ref C_InvalidTool) = some true)
    (ki_InvalidTool_InvalidGoal : PySem.W.kitOne K (.ref C_InvalidGoal) (.ref C_InvalidTool) = some false)
    (ki_InvalidTool_InvalidCommand : PySem.W.kitOne K (.ref C_InvalidCommand) (.ref C_InvalidTool) = some false)
    (ki_InvalidTool_Refused : PySem.W.kitOne K (.ref C_Refused) (.ref C_InvalidTool) = some false)
    (ki_InvalidTool_NoPiece : PySem.W.kitOne K (.ref C_NoPiece) (.ref C_InvalidTool) = some false)
    (ki_InvalidTool_NoRow : PySem.W.kitOne K (.ref C_NoRow) (.ref C_InvalidTool) = some false)
    (ki_InvalidRow_InvalidPiece : PySem.W.kitOne K (.ref C_InvalidPiece) (.ref C_InvalidRow) = some false)
    (ki_InvalidRow_InvalidProgram : PySem.W.kitOne K (.ref C_InvalidProgram) (.ref C_InvalidRow) = some false)
    (ki_InvalidRow_InvalidText : PySem.W.kitOne K (.ref C_InvalidText) (.ref C_InvalidRow) = some false)
    (ki_InvalidRow_InvalidRow : PySem.W.kitOne K (.ref C_InvalidRow) (.ref C_InvalidRow) = some true)
    (ki_InvalidRow_InvalidTool : PySem.W.kitOne K (.ref C_InvalidTool) (.ref C_InvalidRow) = some false)
    (ki_InvalidRow_InvalidGoal : PySem.W.kitOne K (.ref C_InvalidGoal) (.ref C_InvalidRow) = some false)
    (ki_InvalidRow_InvalidCommand : PySem.W.kitOne K (.ref C_InvalidCommand) (.ref C_InvalidRow) = some false)
    (ki_InvalidRow_Refused : PySem.W.kitOne K (.ref C_Refused) (.ref C_InvalidRow) = some false)
    (ki_InvalidRow_NoPiece : PySem.W.kitOne K (.ref C_NoPiece) (.ref C_InvalidRow) = some false)
    (ki_InvalidRow_NoRow : PySem.W.kitOne K (.ref C_NoRow) (.ref C_InvalidRow) = some false)
    (ki_InvalidGoal_InvalidPiece : PySem.W.kitOne K (.ref C_InvalidPiece) (.ref C_InvalidGoal) = some false)
    (ki_InvalidGoal_InvalidProgram : PySem.W.kitOne K (.ref C_InvalidProgram) (.ref C_InvalidGoal) = some false)
    (ki_InvalidGoal_InvalidText : PySem.W.kitOne K (.ref C_InvalidText) (.ref C_InvalidGoal) = some false)
    (ki_InvalidGoal_InvalidRow : PySem.W.kitOne K (.ref C_InvalidRow) (.ref C_InvalidGoal) = some false)
    (ki_InvalidGoal_InvalidTool : PySem.W.kitOne K (.ref C_InvalidTool) (.ref C_InvalidGoal) = some false)
    (ki_InvalidGoal_InvalidGoal : PySem.W.kitOne K (.ref C_InvalidGoal) (.ref C_InvalidGoal) = some true)
    (ki_InvalidGoal_InvalidCommand : PySem.W.kitOne K (.ref C_InvalidCommand) (.ref C_InvalidGoal) = some false)
    (ki_InvalidGoal_Refused : PySem.W.kitOne K (.ref C_Refused) (.ref C_InvalidGoal) = some false)
    (ki_InvalidGoal_NoPiece : PySem.W.kitOne K (.ref C_NoPiece) (.ref C_InvalidGoal) = some false)
    (ki_InvalidGoal_NoRow : PySem.W.kitOne K (.ref C_NoRow) (.ref C_InvalidGoal) = some false)
    (ki_NoRow_InvalidPiece : PySem.W.kitOne K (.ref C_InvalidPiece) (.ref C_NoRow) = some false)
    (ki_NoRow_InvalidProgram : PySem.W.kitOne K (.ref C_InvalidProgram) (.ref C_NoRow) = some false)
    (ki_NoRow_InvalidText : PySem.W.kitOne K (.ref C_InvalidText) (.ref C_NoRow) = some false)
    (ki_NoRow_InvalidRow : PySem.W.kitOne K (.ref C_InvalidRow) (.ref C_NoRow) = some false)
    (ki_NoRow_InvalidTool : PySem.W.kitOne K (.ref C_InvalidTool) (.ref C_NoRow) = some false)
    (ki_NoRow_InvalidGoal : PySem.W.kitOne K (.ref C_InvalidGoal) (.ref C_NoRow) = some false)
    (ki_NoRow_InvalidCommand : PySem.W.kitOne K (.ref C_InvalidCommand) (.ref C_NoRow) = some false)
    (ki_NoRow_Refused : PySem.W.kitOne K (.ref C_Refused) (.ref C_NoRow) = some false)
    (ki_NoRow_NoPiece : PySem.W.kitOne K (.ref C_NoPiece) (.ref C_NoRow) = some false)
    (ki_NoRow_NoRow : PySem.W.kitOne K (.ref C_NoRow) (.ref C_NoRow) = some true)
    (ki_NoPiece_InvalidPiece : PySem.W.kitOne K (.ref C_InvalidPiece) (.ref C_NoPiece) = some false)
    (ki_NoPiece_InvalidProgram : PySem.W.kitOne K (.ref C_InvalidProgram) (.ref C_NoPiece) = some false)
    (ki_NoPiece_InvalidText : PySem.W.kitOne K (.ref C_InvalidText) (.ref C_NoPiece) = some false)
    (ki_NoPiece_InvalidRow : PySem.W.kitOne K (.ref C_InvalidRow) (.ref C_NoPiece) = some false)
    (ki_NoPiece_InvalidTool : PySem.W.kitOne K (.ref C_InvalidTool) (.ref C_NoPiece) = some false)
    (ki_NoPiece_InvalidGoal : PySem.W.kitOne K (.ref C_InvalidGoal) (.ref C_NoPiece) = some false)
    (ki_NoPiece_InvalidCommand : PySem.W.kitOne K (.ref C_InvalidCommand) (.ref C_NoPiece) = some false)
    (ki_NoPiece_Refused : PySem.W.kitOne K (.ref C_Refused) (.ref C_NoPiece) = some false)
    (ki_NoPiece_NoPiece : PySem.W.kitOne K (.ref C_NoPiece) (.ref C_NoPiece) = some true)
    (ki_NoPiece_NoRow : PySem.W.kitOne K (.ref C_NoRow) (.ref C_NoPiece) = some false)
    (ki_InvalidCommand_InvalidPiece : PySem.W.kitOne K (.ref C_InvalidPiece) (.ref C_InvalidCommand) = some false)
    (ki_InvalidCommand_InvalidProgram : PySem.W.kitOne K (.ref C_InvalidProgram) (.ref C_InvalidCommand) = some false)
    (ki_InvalidCommand_InvalidText : PySem.W.kitOne K (.ref C_InvalidText) (.ref C_InvalidCommand) = some false)
    (ki_InvalidCommand_InvalidRow : PySem.W.kitOne K (.ref C_InvalidRow) (.ref C_InvalidCommand) = some false)
    (ki_InvalidCommand_InvalidTool : PySem.W.kitOne K (.ref C_InvalidTool) (.ref C_InvalidCommand) = some false)
    (ki_InvalidCommand_InvalidGoal : PySem.W.kitOne K (.ref C_InvalidGoal) (.ref C_InvalidCommand) = some false)
    (ki_InvalidCommand_InvalidCommand : PySem.W.kitOne K (.ref C_InvalidCommand) (.ref C_InvalidCommand) = some true)
    (ki_InvalidCommand_Refused : PySem.W.kitOne K (.ref C_Refused) (.ref C_InvalidCommand) = some false)
    (ki_InvalidCommand_NoPiece : PySem.W.kitOne K (.ref C_NoPiece) (.ref C_InvalidCommand) = some false)
    (ki_InvalidCommand_NoRow : PySem.W.kitOne K (.ref C_NoRow) (.ref C_InvalidCommand) = some false)
    (ki_LayError_InvalidPiece : PySem.W.kitOne K (.ref C_InvalidPiece) (.ref C_LayError) = some true)
    (ki_LayError_InvalidProgram : PySem.W.kitOne K (.ref C_InvalidProgram) (.ref C_LayError) = some true)
    (ki_LayError_InvalidText : PySem.W.kitOne K (.ref C_InvalidText) (.ref C_LayError) = some true)
    (ki_LayError_InvalidRow : PySem.W.kitOne K (.ref C_InvalidRow) (.ref C_LayError) = some true)
    (ki_LayError_InvalidTool : PySem.W.kitOne K (.ref C_InvalidTool) (.ref C_LayError) = some true)
    (ki_LayError_InvalidGoal : PySem.W.kitOne K (.ref C_InvalidGoal) (.ref C_LayError) = some true)
    (ki_LayError_InvalidCommand : PySem.W.kitOne K (.ref C_InvalidCommand) (.ref C_LayError) = some true)
    (ki_LayError_Refused : PySem.W.kitOne K (.ref C_Refused) (.ref C_LayError) = some true)
    (ki_LayError_NoPiece : PySem.W.kitOne K (.ref C_NoPiece) (.ref C_LayError) = some true)
    (ki_LayError_NoRow : PySem.W.kitOne K (.ref C_NoRow) (.ref C_LayError) = some true)
    (ki_ValueError_InvalidPiece : PySem.W.kitOne K (.ref C_InvalidPiece) (.type "ValueError") = some true)
    (ki_ValueError_InvalidProgram : PySem.W.kitOne K (.ref C_InvalidProgram) (.type "ValueError") = some true)
    (ki_ValueError_InvalidText : PySem.W.kitOne K (.ref C_InvalidText) (.type "ValueError") = some true)
    (ki_ValueError_InvalidRow : PySem.W.kitOne K (.ref C_InvalidRow) (.type "ValueError") = some true)
    (ki_ValueError_InvalidTool : PySem.W.kitOne K (.ref C_InvalidTool) (.type "ValueError") = some true)
    (ki_ValueError_InvalidGoal : PySem.W.kitOne K (.ref C_InvalidGoal) (.type "ValueError") = some true)
    (ki_ValueError_InvalidCommand : PySem.W.kitOne K (.ref C_InvalidCommand) (.type "ValueError") = some true)
    (ki_ValueError_Refused : PySem.W.kitOne K (.ref C_Refused) (.type "ValueError") = some true)
    (ki_ValueError_NoPiece : PySem.W.kitOne K (.ref C_NoPiece) (.type "ValueError") = some true)
    (ki_ValueError_NoRow : PySem.W.kitOne K (.ref C_NoRow) (.type "ValueError") = some true)
    (a_law_box : PySem.W.nsIn K mainGlobals "_law_box" = some (some (.ref f_law_box)))
    (l_law_box : K.lookup f_law_box = some ⟨oc_law_box, od_law_box, .func (PySem.W.fnOf "_law_box" "_law_box" (defArgs st_law_box) (defBody st_law_box) (defScope st_law_box) .none kV_law_box dc_law_box pm_law_box an_law_box cd_law_box ct_law_box), sl_law_box⟩)
    (c_law_box : PySem.W.codeIn K cd_law_box "_law_box" = true)
    (k_law_box : PySem.W.keepIn K (.ref f_law_box) = true)
    (a_law_take : PySem.W.nsIn K mainGlobals "_law_take" = some (some (.ref f_law_take)))
    (l_law_take : K.lookup f_law_take = some ⟨oc_law_take, od_law_take, .func (PySem.W.fnOf "_law_take" "_law_take" (defArgs st_law_take) (defBody st_law_take) (defScope st_law_take) .none kV_law_take dc_law_take pm_law_take an_law_take cd_law_take ct_law_take), sl_law_take⟩)
    (c_law_take : PySem.W.codeIn K cd_law_take "_law_take" = true)
    (k_law_take : PySem.W.keepIn K (.ref f_law_take) = true)
    (a_law_pick : PySem.W.nsIn K mainGlobals "_law_pick" = some (some (.ref f_law_pick)))
    (l_law_pick : K.lookup f_law_pick = some ⟨oc_law_pick, od_law_pick, .func (PySem.W.fnOf "_law_pick" "_law_pick" (defArgs st_law_pick) (defBody st_law_pick) (defScope st_law_pick) .none kV_law_pick dc_law_pick pm_law_pick an_law_pick cd_law_pick ct_law_pick), sl_law_pick⟩)
    (c_law_pick : PySem.W.codeIn K cd_law_pick "_law_pick" = true)
    (k_law_pick : PySem.W.keepIn K (.ref f_law_pick) = true)
    (a_law_value : PySem.W.nsIn K mainGlobals "_law_value" = some (some (.ref f_law_value)))
    (l_law_value : K.lookup f_law_value = some ⟨oc_law_value, od_law_value, .func (PySem.W.fnOf "_law_value" "_law_value" (defArgs st_law_value) (defBody st_law_value) (defScope st_law_value) .none kV_law_value dc_law_value pm_law_value an_law_value cd_law_value ct_law_value), sl_law_value⟩)
    (c_law_value : PySem.W.codeIn K cd_law_value "_law_value" = true)
    (k_law_value : PySem.W.keepIn K (.ref f_law_value) = true)
    (a_law_made : PySem.W.nsIn K mainGlobals "_law_made" = some (some (.ref f_law_made)))
    (l_law_made : K.lookup f_law_made = some ⟨oc_law_made, od_law_made, .func (PySem.W.fnOf "_law_made" "_law_made" (defArgs st_law_made) (defBody st_law_made) (defScope st_law_made) .none kV_law_made dc_law_made pm_law_made an_law_made cd_law_made ct_law_made), sl_law_made⟩)
    (c_law_made : PySem.W.codeIn K cd_law_made "_law_made" = true)
    (k_law_made : PySem.W.keepIn K (.ref f_law_made) = true)
    (a_law_sorts : PySem.W.nsIn K mainGlobals "_law_sorts" = some (some (.ref f_law_sorts)))
    (l_law_sorts : K.lookup f_law_sorts = some ⟨oc_law_sorts, od_law_sorts, .func (PySem.W.fnOf "_law_sorts" "_law_sorts" (defArgs st_law_sorts) (defBody st_law_sorts) (defScope st_law_sorts) .none kV_law_sorts dc_law_sorts pm_law_sorts an_law_sorts cd_law_sorts ct_law_sorts), sl_law_sorts⟩)
    (c_law_sorts : PySem.W.codeIn K cd_law_sorts "_law_sorts" = true)
    (k_law_sorts : PySem.W.keepIn K (.ref f_law_sorts) = true)
    (a_law_held : PySem.W.nsIn K mainGlobals "_law_held" = some (some (.ref f_law_held)))
    (l_law_held : K.lookup f_law_held = some ⟨oc_law_held, od_law_held, .func (PySem.W.fnOf "_law_held" "_law_held" (defArgs st_law_held) (defBody st_law_held) (defScope st_law_held) .none kV_law_held dc_law_held pm_law_held an_law_held cd_law_held ct_law_held), sl_law_held⟩)
    (c_law_held : PySem.W.codeIn K cd_law_held "_law_held" = true)
    (k_law_held : PySem.W.keepIn K (.ref f_law_held) = true)
    (a_law_named : PySem.W.nsIn K mainGlobals "_law_named" = some (some (.ref f_law_named)))
    (l_law_named : K.lookup f_law_named = some ⟨oc_law_named, od_law_named, .func (PySem.W.fnOf "_law_named" "_law_named" (defArgs st_law_named) (defBody st_law_named) (defScope st_law_named) .none kV_law_named dc_law_named pm_law_named an_law_named cd_law_named ct_law_named), sl_law_named⟩)
    (c_law_named : PySem.W.codeIn K cd_law_named "_law_named" = true)
    (k_law_named : PySem.W.keepIn K (.ref f_law_named) = true)
    (a_law : PySem.W.nsIn K mainGlobals "law" = some (some (.ref f_law)))
    (l_law : K.lookup f_law = some ⟨oc_law, od_law, .func (PySem.W.fnOf "law" "law" (defArgs st_law) (defBody st_law) (defScope st_law) .none kV_law dc_law pm_law an_law cd_law ct_law), sl_law⟩)
    (c_law : PySem.W.codeIn K cd_law "law" = true)
    (k_law : PySem.W.keepIn K (.ref f_law) = true) :
    ∃ fd : FuncData, (∀ (s : Shared) (v : Value), BindsTo s fd ⟨[v], []⟩ [("_law_script", v)]) ∧ ∀ base : Heap, K.In base → base.Ns mainGlobals mg → FnG l.prog w K mg base 4 fa fd ["_law_script"] (spLaw K) := by
  have e := hfa.symm.trans (PySem.W.mg_of X G a_law)
  cases e
  refine ⟨PySem.W.fnOf "law" "law" (defArgs st_law) (defBody st_law) (defScope st_law) .none kV_law dc_law pm_law an_law cd_law ct_law, fun s v => .of_eq rfl, fun base _ _ => ?_⟩
  have b_ValueError : mg "ValueError" = none := PySem.W.mg_none_of X G z_ValueError
  have b_abs : mg "abs" = none := PySem.W.mg_none_of X G z_abs
  have b_enumerate : mg "enumerate" = none := PySem.W.mg_none_of X G z_enumerate
  have b_int : mg "int" = none := PySem.W.mg_none_of X G z_int
  have b_isinstance : mg "isinstance" = none := PySem.W.mg_none_of X G z_isinstance
  have b_len : mg "len" = none := PySem.W.mg_none_of X G z_len
  have b_max : mg "max" = none := PySem.W.mg_none_of X G z_max
  have b_min : mg "min" = none := PySem.W.mg_none_of X G z_min
  have b_range : mg "range" = none := PySem.W.mg_none_of X G z_range
  have b_repr : mg "repr" = none := PySem.W.mg_none_of X G z_repr
  have ox_InvalidRow : OexC K C_InvalidRow := ⟨⟨xn_InvalidRow, xq_InvalidRow, xN_InvalidRow, xbs_InvalidRow, xbm_InvalidRow, xsn_InvalidRow, xsub_InvalidRow, xab_InvalidRow, xcol_InvalidRow, xdd_InvalidRow, x0_InvalidRow, x1_InvalidRow, x2_InvalidRow, x3_InvalidRow, x5_InvalidRow, xL_InvalidRow, xr_InvalidRow⟩, esa_InvalidRow, eex_InvalidRow, ety_InvalidRow, ekc_InvalidRow⟩
  have FE_InvalidRow := fun_mk (st := st_InvalidRowD_initD) el_InvalidRow ec_InvalidRow ek_InvalidRow
  have BE_InvalidRow := FE_InvalidRow.binds (ps := ["self", "part"]) fun _ _ _ _ _ _ us hl => match us, hl with | [_, _], _ => rfl
  have E_InvalidRow : ErrOk l.prog w K mg base (tabT C_LayError C_InvalidPiece C_InvalidProgram C_InvalidText C_InvalidRow C_InvalidTool C_InvalidGoal C_InvalidCommand C_Refused C_NoPiece C_NoRow) "InvalidRow" "part" 4 2 1 := ⟨by rfl, PySem.W.mg_of X G aC_InvalidRow, ox_InvalidRow, eno_InvalidRow, fE_InvalidRow, _, ea_InvalidRow, et_InvalidRow, BE_InvalidRow, ok_InvalidRowD_initD FE_InvalidRow (PySem.W.mg_of X G aC_LayError) bga brd bty bvV⟩
  have ox_InvalidText : OexC K C_InvalidText := ⟨⟨xn_InvalidText, xq_InvalidText, xN_InvalidText, xbs_InvalidText, xbm_InvalidText, xsn_InvalidText, xsub_InvalidText, xab_InvalidText, xcol_InvalidText, xdd_InvalidText, x0_InvalidText, x1_InvalidText, x2_InvalidText, x3_InvalidText, x5_InvalidText, xL_InvalidText, xr_InvalidText⟩, esa_InvalidText, eex_InvalidText, ety_InvalidText, ekc_InvalidText⟩
  have FE_InvalidText := fun_mk (st := st_InvalidTextD_initD) el_InvalidText ec_InvalidText ek_InvalidText
  have BE_InvalidText := FE_InvalidText.binds (ps := ["self", "at"]) fun _ _ _ _ _ _ us hl => match us, hl with | [_, _], _ => rfl
  have E_InvalidText : ErrOk l.prog w K mg base (tabT C_LayError C_InvalidPiece C_InvalidProgram C_InvalidText C_InvalidRow C_InvalidTool C_InvalidGoal C_InvalidCommand C_Refused C_NoPiece C_NoRow) "InvalidText" "at" 3 1 1 := ⟨by rfl, PySem.W.mg_of X G aC_InvalidText, ox_InvalidText, eno_InvalidText, fE_InvalidText, _, ea_InvalidText, et_InvalidText, BE_InvalidText, ok_InvalidTextD_initD FE_InvalidText (PySem.W.mg_of X G aC_LayError) bga brd bty bvV⟩
  have ox_InvalidProgram : OexC K C_InvalidProgram := ⟨⟨xn_InvalidProgram, xq_InvalidProgram, xN_InvalidProgram, xbs_InvalidProgram, xbm_InvalidProgram, xsn_InvalidProgram, xsub_InvalidProgram, xab_InvalidProgram, xcol_InvalidProgram, xdd_InvalidProgram, x0_InvalidProgram, x1_InvalidProgram, x2_InvalidProgram, x3_InvalidProgram, x5_InvalidProgram, xL_InvalidProgram, xr_InvalidProgram⟩, esa_InvalidProgram, eex_InvalidProgram, ety_InvalidProgram, ekc_InvalidProgram⟩
  have FE_InvalidProgram := fun_mk (st := st_InvalidProgramD_initD) el_InvalidProgram ec_InvalidProgram ek_InvalidProgram
  have BE_InvalidProgram := FE_InvalidProgram.binds (ps := ["self", "at"]) fun _ _ _ _ _ _ us hl => match us, hl with | [_, _], _ => rfl
  have E_InvalidProgram : ErrOk l.prog w K mg base (tabT C_LayError C_InvalidPiece C_InvalidProgram C_InvalidText C_InvalidRow C_InvalidTool C_InvalidGoal C_InvalidCommand C_Refused C_NoPiece C_NoRow) "InvalidProgram" "at" 2 1 1 := ⟨by rfl, PySem.W.mg_of X G aC_InvalidProgram, ox_InvalidProgram, eno_InvalidProgram, fE_InvalidProgram, _, ea_InvalidProgram, et_InvalidProgram, BE_InvalidProgram, ok_InvalidProgramD_initD FE_InvalidProgram (PySem.W.mg_of X G aC_LayError) bga brd bty bvV⟩
  have ox_InvalidPiece : OexC K C_InvalidPiece := ⟨⟨xn_InvalidPiece, xq_InvalidPiece, xN_InvalidPiece, xbs_InvalidPiece, xbm_InvalidPiece, xsn_InvalidPiece, xsub_InvalidPiece, xab_InvalidPiece, xcol_InvalidPiece, xdd_InvalidPiece, x0_InvalidPiece, x1_InvalidPiece, x2_InvalidPiece, x3_InvalidPiece, x5_InvalidPiece, xL_InvalidPiece, xr_InvalidPiece⟩, esa_InvalidPiece, eex_InvalidPiece, ety_InvalidPiece, ekc_InvalidPiece⟩
  have FE_InvalidPiece := fun_mk (st := st_InvalidPieceD_initD) el_InvalidPiece ec_InvalidPiece ek_InvalidPiece
  have BE_InvalidPiece := FE_InvalidPiece.binds (ps := ["self", "word"]) fun _ _ _ _ _ _ us hl => match us, hl with | [_, _], _ => rfl
  have E_InvalidPiece : ErrOk l.prog w K mg base (tabT C_LayError C_InvalidPiece C_InvalidProgram C_InvalidText C_InvalidRow C_InvalidTool C_InvalidGoal C_InvalidCommand C_Refused C_NoPiece C_NoRow) "InvalidPiece" "word" 1 0 1 := ⟨by rfl, PySem.W.mg_of X G aC_InvalidPiece, ox_InvalidPiece, eno_InvalidPiece, fE_InvalidPiece, _, ea_InvalidPiece, et_InvalidPiece, BE_InvalidPiece, ok_InvalidPieceD_initD FE_InvalidPiece (PySem.W.mg_of X G aC_LayError) bga brd bty bvV⟩
  have ox_NoRow : OexC K C_NoRow := ⟨⟨xn_NoRow, xq_NoRow, xN_NoRow, xbs_NoRow, xbm_NoRow, xsn_NoRow, xsub_NoRow, xab_NoRow, xcol_NoRow, xdd_NoRow, x0_NoRow, x1_NoRow, x2_NoRow, x3_NoRow, x5_NoRow, xL_NoRow, xr_NoRow⟩, esa_NoRow, eex_NoRow, ety_NoRow, ekc_NoRow⟩
  have FE_NoRow := fun_mk (st := st_NoRowD_initD) el_NoRow ec_NoRow ek_NoRow
  have BE_NoRow := FE_NoRow.binds (ps := ["self", "at"]) fun _ _ _ _ _ _ us hl => match us, hl with | [_, _], _ => rfl
  have E_NoRow : ErrOk l.prog w K mg base (tabT C_LayError C_InvalidPiece C_InvalidProgram C_InvalidText C_InvalidRow C_InvalidTool C_InvalidGoal C_InvalidCommand C_Refused C_NoPiece C_NoRow) "NoRow" "at" 10 1 1 := ⟨by rfl, PySem.W.mg_of X G aC_NoRow, ox_NoRow, eno_NoRow, fE_NoRow, _, ea_NoRow, et_NoRow, BE_NoRow, ok_NoRowD_initD FE_NoRow (PySem.W.mg_of X G aC_LayError) bga brd bty bvV⟩
  have ox_NoPiece : OexC K C_NoPiece := ⟨⟨xn_NoPiece, xq_NoPiece, xN_NoPiece, xbs_NoPiece, xbm_NoPiece, xsn_NoPiece, xsub_NoPiece, xab_NoPiece, xcol_NoPiece, xdd_NoPiece, x0_NoPiece, x1_NoPiece, x2_NoPiece, x3_NoPiece, x5_NoPiece, xL_NoPiece, xr_NoPiece⟩, esa_NoPiece, eex_NoPiece, ety_NoPiece, ekc_NoPiece⟩
  have FE_NoPiece := fun_mk (st := st_NoPieceD_initD) el_NoPiece ec_NoPiece ek_NoPiece
  have BE_NoPiece := FE_NoPiece.binds (ps := ["self", "at"]) fun _ _ _ _ _ _ us hl => match us, hl with | [_, _], _ => rfl
  have E_NoPiece : ErrOk l.prog w K mg base (tabT C_LayError C_InvalidPiece C_InvalidProgram C_InvalidText C_InvalidRow C_InvalidTool C_InvalidGoal C_InvalidCommand C_Refused C_NoPiece C_NoRow) "NoPiece" "at" 9 1 1 := ⟨by rfl, PySem.W.mg_of X G aC_NoPiece, ox_NoPiece, eno_NoPiece, fE_NoPiece, _, ea_NoPiece, et_NoPiece, BE_NoPiece, ok_NoPieceD_initD FE_NoPiece (PySem.W.mg_of X G aC_LayError) bga brd bty bvV⟩
  have ox_Refused : OexC K C_Refused := ⟨⟨xn_Refused, xq_Refused, xN_Refused, xbs_Refused, xbm_Refused, xsn_Refused, xsub_Refused, xab_Refused, xcol_Refused, xdd_Refused, x0_Refused, x1_Refused, x2_Refused, x3_Refused, x5_Refused, xL_Refused, xr_Refused⟩, esa_Refused, eex_Refused, ety_Refused, ekc_Refused⟩
  have FE_Refused := fun_mk (st := st_RefusedD_initD) el_Refused ec_Refused ek_Refused
  have BE_Refused := FE_Refused.binds (ps := ["self", "word"]) fun _ _ _ _ _ _ us hl => match us, hl with | [_, _], _ => rfl
  have E_Refused : ErrOk l.prog w K mg base (tabT C_LayError C_InvalidPiece C_InvalidProgram C_InvalidText C_InvalidRow C_InvalidTool C_InvalidGoal C_InvalidCommand C_Refused C_NoPiece C_NoRow) "Refused" "word" 8 0 1 := ⟨by rfl, PySem.W.mg_of X G aC_Refused, ox_Refused, eno_Refused, fE_Refused, _, ea_Refused, et_Refused, BE_Refused, ok_RefusedD_initD FE_Refused (PySem.W.mg_of X G aC_LayError) bga brd bty bvV⟩
  have ox_InvalidTool : OexC K C_InvalidTool := ⟨⟨xn_InvalidTool, xq_InvalidTool, xN_InvalidTool, xbs_InvalidTool, xbm_InvalidTool, xsn_InvalidTool, xsub_InvalidTool, xab_InvalidTool, xcol_InvalidTool, xdd_InvalidTool, x0_InvalidTool, x1_InvalidTool, x2_InvalidTool, x3_InvalidTool, x5_InvalidTool, xL_InvalidTool, xr_InvalidTool⟩, esa_InvalidTool, eex_InvalidTool, ety_InvalidTool, ekc_InvalidTool⟩
  have FE_InvalidTool := fun_mk (st := st_InvalidToolD_initD) el_InvalidTool ec_InvalidTool ek_InvalidTool
  have BE_InvalidTool := FE_InvalidTool.binds (ps := ["self", "at"]) fun _ _ _ _ _ _ us hl => match us, hl with | [_, _], _ => rfl
  have E_InvalidTool : ErrOk l.prog w K mg base (tabT C_LayError C_InvalidPiece C_InvalidProgram C_InvalidText C_InvalidRow C_InvalidTool C_InvalidGoal C_InvalidCommand C_Refused C_NoPiece C_NoRow) "InvalidTool" "at" 5 1 1 := ⟨by rfl, PySem.W.mg_of X G aC_InvalidTool, ox_InvalidTool, eno_InvalidTool, fE_InvalidTool, _, ea_InvalidTool, et_InvalidTool, BE_InvalidTool, ok_InvalidToolD_initD FE_InvalidTool (PySem.W.mg_of X G aC_LayError) bga brd bty bvV⟩
  have ox_InvalidCommand : OexC K C_InvalidCommand := ⟨⟨xn_InvalidCommand, xq_InvalidCommand, xN_InvalidCommand, xbs_InvalidCommand, xbm_InvalidCommand, xsn_InvalidCommand, xsub_InvalidCommand, xab_InvalidCommand, xcol_InvalidCommand, xdd_InvalidCommand, x0_InvalidCommand, x1_InvalidCommand, x2_InvalidCommand, x3_InvalidCommand, x5_InvalidCommand, xL_InvalidCommand, xr_InvalidCommand⟩, esa_InvalidCommand, eex_InvalidCommand, ety_InvalidCommand, ekc_InvalidCommand⟩
  have FE_InvalidCommand := fun_mk (st := st_InvalidCommandD_initD) el_InvalidCommand ec_InvalidCommand ek_InvalidCommand
  have BE_InvalidCommand := FE_InvalidCommand.binds (ps := ["self"]) fun _ _ _ _ _ _ us hl => match us, hl with | [_], _ => rfl
  have E0_InvalidCommand : ErrOk0 l.prog w K mg base (tabT C_LayError C_InvalidPiece C_InvalidProgram C_InvalidText C_InvalidRow C_InvalidTool C_InvalidGoal C_InvalidCommand C_Refused C_NoPiece C_NoRow) "InvalidCommand" 7 1 := ⟨PySem.W.mg_of X G aC_InvalidCommand, ox_InvalidCommand, fE_InvalidCommand, _, ea_InvalidCommand, et_InvalidCommand, BE_InvalidCommand, ok_InvalidCommandD_initD FE_InvalidCommand (PySem.W.mg_of X G aC_LayError) bga brd bty bvV⟩
  have ox_InvalidGoal : OexC K C_InvalidGoal := ⟨⟨xn_InvalidGoal, xq_InvalidGoal, xN_InvalidGoal, xbs_InvalidGoal, xbm_InvalidGoal, xsn_InvalidGoal, xsub_InvalidGoal, xab_InvalidGoal, xcol_InvalidGoal, xdd_InvalidGoal, x0_InvalidGoal, x1_InvalidGoal, x2_InvalidGoal, x3_InvalidGoal, x5_InvalidGoal, xL_InvalidGoal, xr_InvalidGoal⟩, esa_InvalidGoal, eex_InvalidGoal, ety_InvalidGoal, ekc_InvalidGoal⟩
  have FE_InvalidGoal := fun_mk (st := st_InvalidGoalD_initD) el_InvalidGoal ec_InvalidGoal ek_InvalidGoal
  have BE_InvalidGoal := FE_InvalidGoal.binds (ps := ["self"]) fun _ _ _ _ _ _ us hl => match us, hl with | [_], _ => rfl
  have E0_InvalidGoal : ErrOk0 l.prog w K mg base (tabT C_LayError C_InvalidPiece C_InvalidProgram C_InvalidText C_InvalidRow C_InvalidTool C_InvalidGoal C_InvalidCommand C_Refused C_NoPiece C_NoRow) "InvalidGoal" 6 1 := ⟨PySem.W.mg_of X G aC_InvalidGoal, ox_InvalidGoal, fE_InvalidGoal, _, ea_InvalidGoal, et_InvalidGoal, BE_InvalidGoal, ok_InvalidGoalD_initD FE_InvalidGoal (PySem.W.mg_of X G aC_LayError) bga brd bty bvV⟩
  have KBE_InvalidText := LT.Fun.kbA (ps := ["self", "at"]) FE_InvalidText 1 ["at"] fun _ _ _ _ _ _ us ws h1 h2 => match us, h1, ws, h2 with | [_], _, [_], _ => rfl
  have EK_InvalidText : ErrKOk l.prog w K mg base (tabT C_LayError C_InvalidPiece C_InvalidProgram C_InvalidText C_InvalidRow C_InvalidTool C_InvalidGoal C_InvalidCommand C_Refused C_NoPiece C_NoRow) "InvalidText" "at" 3 1 1 := ⟨by rfl, PySem.W.mg_of X G aC_InvalidText, ox_InvalidText, eno_InvalidText, fE_InvalidText, _, ea_InvalidText, et_InvalidText, KBE_InvalidText, ok_InvalidTextD_initD FE_InvalidText (PySem.W.mg_of X G aC_LayError) bga brd bty bvV⟩
  have KBE_InvalidProgram := LT.Fun.kbA (ps := ["self", "at"]) FE_InvalidProgram 1 ["at"] fun _ _ _ _ _ _ us ws h1 h2 => match us, h1, ws, h2 with | [_], _, [_], _ => rfl
  have EK_InvalidProgram : ErrKOk l.prog w K mg base (tabT C_LayError C_InvalidPiece C_InvalidProgram C_InvalidText C_InvalidRow C_InvalidTool C_InvalidGoal C_InvalidCommand C_Refused C_NoPiece C_NoRow) "InvalidProgram" "at" 2 1 1 := ⟨by rfl, PySem.W.mg_of X G aC_InvalidProgram, ox_InvalidProgram, eno_InvalidProgram, fE_InvalidProgram, _, ea_InvalidProgram, et_InvalidProgram, KBE_InvalidProgram, ok_InvalidProgramD_initD FE_InvalidProgram (PySem.W.mg_of X G aC_LayError) bga brd bty bvV⟩
  have KBE_InvalidPiece := LT.Fun.kbA (ps := ["self", "word"]) FE_InvalidPiece 1 ["word"] fun _ _ _ _ _ _ us ws h1 h2 => match us, h1, ws, h2 with | [_], _, [_], _ => rfl
  have EK_InvalidPiece : ErrKOk l.prog w K mg base (tabT C_LayError C_InvalidPiece C_InvalidProgram C_InvalidText C_InvalidRow C_InvalidTool C_InvalidGoal C_InvalidCommand C_Refused C_NoPiece C_NoRow) "InvalidPiece" "word" 1 0 1 := ⟨by rfl, PySem.W.mg_of X G aC_InvalidPiece, ox_InvalidPiece, eno_InvalidPiece, fE_InvalidPiece, _, ea_InvalidPiece, et_InvalidPiece, KBE_InvalidPiece, ok_InvalidPieceD_initD FE_InvalidPiece (PySem.W.mg_of X G aC_LayError) bga brd bty bvV⟩
  have KBE_Refused := LT.Fun.kbA (ps := ["self", "word"]) FE_Refused 1 ["word"] fun _ _ _ _ _ _ us ws h1 h2 => match us, h1, ws, h2 with | [_], _, [_], _ => rfl
  have EK_Refused : ErrKOk l.prog w K mg base (tabT C_LayError C_InvalidPiece C_InvalidProgram C_InvalidText C_InvalidRow C_InvalidTool C_InvalidGoal C_InvalidCommand C_Refused C_NoPiece C_NoRow) "Refused" "word" 8 0 1 := ⟨by rfl, PySem.W.mg_of X G aC_Refused, ox_Refused, eno_Refused, fE_Refused, _, ea_Refused, et_Refused, KBE_Refused, ok_RefusedD_initD FE_Refused (PySem.W.mg_of X G aC_LayError) bga brd bty bvV⟩
  have KBE_InvalidTool := LT.Fun.kbA (ps := ["self", "at"]) FE_InvalidTool 1 ["at"] fun _ _ _ _ _ _ us ws h1 h2 => match us, h1, ws, h2 with | [_], _, [_], _ => rfl
  have EK_InvalidTool : ErrKOk l.prog w K mg base (tabT C_LayError C_InvalidPiece C_InvalidProgram C_InvalidText C_InvalidRow C_InvalidTool C_InvalidGoal C_InvalidCommand C_Refused C_NoPiece C_NoRow) "InvalidTool" "at" 5 1 1 := ⟨by rfl, PySem.W.mg_of X G aC_InvalidTool, ox_InvalidTool, eno_InvalidTool, fE_InvalidTool, _, ea_InvalidTool, et_InvalidTool, KBE_InvalidTool, ok_InvalidToolD_initD FE_InvalidTool (PySem.W.mg_of X G aC_LayError) bga brd bty bvV⟩
  have KBE_InvalidRow := LT.Fun.kbA (ps := ["self", "part"]) FE_InvalidRow 1 ["part"] fun _ _ _ _ _ _ us ws h1 h2 => match us, h1, ws, h2 with | [_], _, [_], _ => rfl
  have EK_InvalidRow : ErrKOk l.prog w K mg base (tabT C_LayError C_InvalidPiece C_InvalidProgram C_InvalidText C_InvalidRow C_InvalidTool C_InvalidGoal C_InvalidCommand C_Refused C_NoPiece C_NoRow) "InvalidRow" "part" 4 2 1 := ⟨by rfl, PySem.W.mg_of X G aC_InvalidRow, ox_InvalidRow, eno_InvalidRow, fE_InvalidRow, _, ea_InvalidRow, et_InvalidRow, KBE_InvalidRow, ok_InvalidRowD_initD FE_InvalidRow (PySem.W.mg_of X G aC_LayError) bga brd bty bvV⟩
  have KBE_NoRow := LT.Fun.kbA (ps := ["self", "at"]) FE_NoRow 1 ["at"] fun _ _ _ _ _ _ us ws h1 h2 => match us, h1, ws, h2 with | [_], _, [_], _ => rfl
  have EK_NoRow : ErrKOk l.prog w K mg base (tabT C_LayError C_InvalidPiece C_InvalidProgram C_InvalidText C_InvalidRow C_InvalidTool C_InvalidGoal C_InvalidCommand C_Refused C_NoPiece C_NoRow) "NoRow" "at" 10 1 1 := ⟨by rfl, PySem.W.mg_of X G aC_NoRow, ox_NoRow, eno_NoRow, fE_NoRow, _, ea_NoRow, et_NoRow, KBE_NoRow, ok_NoRowD_initD FE_NoRow (PySem.W.mg_of X G aC_LayError) bga brd bty bvV⟩
  have KBE_NoPiece := LT.Fun.kbA (ps := ["self", "at"]) FE_NoPiece 1 ["at"] fun _ _ _ _ _ _ us ws h1 h2 => match us, h1, ws, h2 with | [_], _, [_], _ => rfl
  have EK_NoPiece : ErrKOk l.prog w K mg base (tabT C_LayError C_InvalidPiece C_InvalidProgram C_InvalidText C_InvalidRow C_InvalidTool C_InvalidGoal C_InvalidCommand C_Refused C_NoPiece C_NoRow) "NoPiece" "at" 9 1 1 := ⟨by rfl, PySem.W.mg_of X G aC_NoPiece, ox_NoPiece, eno_NoPiece, fE_NoPiece, _, ea_NoPiece, et_NoPiece, KBE_NoPiece, ok_NoPieceD_initD FE_NoPiece (PySem.W.mg_of X G aC_LayError) bga brd bty bvV⟩
  have ve_xc_InvalidPiece : ExcC K C_InvalidPiece := ⟨ve_hg_InvalidPiece, ve_hk_InvalidPiece, eex_InvalidPiece, ve_hd_InvalidPiece, ve_ha_InvalidPiece, ve_hn, ve_ht, ve_hm_InvalidPiece⟩
  have ve_xc_InvalidProgram : ExcC K C_InvalidProgram := ⟨ve_hg_InvalidProgram, ve_hk_InvalidProgram, eex_InvalidProgram, ve_hd_InvalidProgram, ve_ha_InvalidProgram, ve_hn, ve_ht, ve_hm_InvalidProgram⟩
  have ve_xc_InvalidText : ExcC K C_InvalidText := ⟨ve_hg_InvalidText, ve_hk_InvalidText, eex_InvalidText, ve_hd_InvalidText, ve_ha_InvalidText, ve_hn, ve_ht, ve_hm_InvalidText⟩
  have ve_xc_InvalidRow : ExcC K C_InvalidRow := ⟨ve_hg_InvalidRow, ve_hk_InvalidRow, eex_InvalidRow, ve_hd_InvalidRow, ve_ha_InvalidRow, ve_hn, ve_ht, ve_hm_InvalidRow⟩
  have ve_xc_InvalidTool : ExcC K C_InvalidTool := ⟨ve_hg_InvalidTool, ve_hk_InvalidTool, eex_InvalidTool, ve_hd_InvalidTool, ve_ha_InvalidTool, ve_hn, ve_ht, ve_hm_InvalidTool⟩
  have ve_xc_InvalidGoal : ExcC K C_InvalidGoal := ⟨ve_hg_InvalidGoal, ve_hk_InvalidGoal, eex_InvalidGoal, ve_hd_InvalidGoal, ve_ha_InvalidGoal, ve_hn, ve_ht, ve_hm_InvalidGoal⟩
  have ve_xc_InvalidCommand : ExcC K C_InvalidCommand := ⟨ve_hg_InvalidCommand, ve_hk_InvalidCommand, eex_InvalidCommand, ve_hd_InvalidCommand, ve_ha_InvalidCommand, ve_hn, ve_ht, ve_hm_InvalidCommand⟩
  have ve_xc_Refused : ExcC K C_Refused := ⟨ve_hg_Refused, ve_hk_Refused, eex_Refused, ve_hd_Refused, ve_ha_Refused, ve_hn, ve_ht, ve_hm_Refused⟩
  have ve_xc_NoPiece : ExcC K C_NoPiece := ⟨ve_hg_NoPiece, ve_hk_NoPiece, eex_NoPiece, ve_hd_NoPiece, ve_ha_NoPiece, ve_hn, ve_ht, ve_hm_NoPiece⟩
  have ve_xc_NoRow : ExcC K C_NoRow := ⟨ve_hg_NoRow, ve_hk_NoRow, eex_NoRow, ve_hd_NoRow, ve_ha_NoRow, ve_hn, ve_ht, ve_hm_NoRow⟩
  have Ie_InvalidText : IsEOk K (tabT C_LayError C_InvalidPiece C_InvalidProgram C_InvalidText C_InvalidRow C_InvalidTool C_InvalidGoal C_InvalidCommand C_Refused C_NoPiece C_NoRow) (.ref ((tabT C_LayError C_InvalidPiece C_InvalidProgram C_InvalidText C_InvalidRow C_InvalidTool C_InvalidGoal C_InvalidCommand C_Refused C_NoPiece C_NoRow).cls 3)) qI_InvalidText := isE_ok (fun p hp => by
    simp only [List.mem_cons, List.not_mem_nil, or_false] at hp
    rcases hp with rfl | rfl | rfl | rfl | rfl | rfl | rfl | rfl | rfl | rfl
    · exact ⟨ve_xc_InvalidPiece, ki_InvalidText_InvalidPiece⟩
    · exact ⟨ve_xc_InvalidProgram, ki_InvalidText_InvalidProgram⟩
    · exact ⟨ve_xc_InvalidText, ki_InvalidText_InvalidText⟩
    · exact ⟨ve_xc_InvalidRow, ki_InvalidText_InvalidRow⟩
    · exact ⟨ve_xc_InvalidTool, ki_InvalidText_InvalidTool⟩
    · exact ⟨ve_xc_InvalidGoal, ki_InvalidText_InvalidGoal⟩
    · exact ⟨ve_xc_InvalidCommand, ki_InvalidText_InvalidCommand⟩
    · exact ⟨ve_xc_Refused, ki_InvalidText_Refused⟩
    · exact ⟨ve_xc_NoPiece, ki_InvalidText_NoPiece⟩
    · exact ⟨ve_xc_NoRow, ki_InvalidText_NoRow⟩)
  have Mg_InvalidText : mg "InvalidText" = some (.ref ((tabT C_LayError C_InvalidPiece C_InvalidProgram C_InvalidText C_InvalidRow C_InvalidTool C_InvalidGoal C_InvalidCommand C_Refused C_NoPiece C_NoRow).cls 3)) := PySem.W.mg_of X G aC_InvalidText
  have Ie_InvalidProgram : IsEOk K (tabT C_LayError C_InvalidPiece C_InvalidProgram C_InvalidText C_InvalidRow C_InvalidTool C_InvalidGoal C_InvalidCommand C_Refused C_NoPiece C_NoRow) (.ref ((tabT C_LayError C_InvalidPiece C_InvalidProgram C_InvalidText C_InvalidRow C_InvalidTool C_InvalidGoal C_InvalidCommand C_Refused C_NoPiece C_NoRow).cls 2)) qI_InvalidProgram := isE_ok (fun p hp => by
    simp only [List.mem_cons, List.not_mem_nil, or_false] at hp
    rcases hp with rfl | rfl | rfl | rfl | rfl | rfl | rfl | rfl | rfl | rfl
    · exact ⟨ve_xc_InvalidPiece, ki_InvalidProgram_InvalidPiece⟩
    · exact ⟨ve_xc_InvalidProgram, ki_InvalidProgram_InvalidProgram⟩
    · exact ⟨ve_xc_InvalidText, ki_InvalidProgram_InvalidText⟩
    · exact ⟨ve_xc_InvalidRow, ki_InvalidProgram_InvalidRow⟩
    · exact ⟨ve_xc_InvalidTool, ki_InvalidProgram_InvalidTool⟩
    · exact ⟨ve_xc_InvalidGoal, ki_InvalidProgram_InvalidGoal⟩
    · exact ⟨ve_xc_InvalidCommand, ki_InvalidProgram_InvalidCommand⟩
    · exact ⟨ve_xc_Refused, ki_InvalidProgram_Refused⟩
    · exact ⟨ve_xc_NoPiece, ki_InvalidProgram_NoPiece⟩
    · exact ⟨ve_xc_NoRow, ki_InvalidProgram_NoRow⟩)
  have Mg_InvalidProgram : mg "InvalidProgram" = some (.ref ((tabT C_LayError C_InvalidPiece C_InvalidProgram C_InvalidText C_InvalidRow C_InvalidTool C_InvalidGoal C_InvalidCommand C_Refused C_NoPiece C_NoRow).cls 2)) := PySem.W.mg_of X G aC_InvalidProgram
  have Ie_InvalidPiece : IsEOk K (tabT C_LayError C_InvalidPiece C_InvalidProgram C_InvalidText C_InvalidRow C_InvalidTool C_InvalidGoal C_InvalidCommand C_Refused C_NoPiece C_NoRow) (.ref ((tabT C_LayError C_InvalidPiece C_InvalidProgram C_InvalidText C_InvalidRow C_InvalidTool C_InvalidGoal C_InvalidCommand C_Refused C_NoPiece C_NoRow).cls 1)) qI_InvalidPiece := isE_ok (fun p hp => by
    simp only [List.mem_cons, List.not_mem_nil, or_false] at hp
    rcases hp with rfl | rfl | rfl | rfl | rfl | rfl | rfl | rfl | rfl | rfl
    · exact ⟨ve_xc_InvalidPiece, ki_InvalidPiece_InvalidPiece⟩
    · exact ⟨ve_xc_InvalidProgram, ki_InvalidPiece_InvalidProgram⟩
    · exact ⟨ve_xc_InvalidText, ki_InvalidPiece_InvalidText⟩
    · exact ⟨ve_xc_InvalidRow, ki_InvalidPiece_InvalidRow⟩
    · exact ⟨ve_xc_InvalidTool, ki_InvalidPiece_InvalidTool⟩
    · exact ⟨ve_xc_InvalidGoal, ki_InvalidPiece_InvalidGoal⟩
    · exact ⟨ve_xc_InvalidCommand, ki_InvalidPiece_InvalidCommand⟩
    · exact ⟨ve_xc_Refused, ki_InvalidPiece_Refused⟩
    · exact ⟨ve_xc_NoPiece, ki_InvalidPiece_NoPiece⟩
    · exact ⟨ve_xc_NoRow, ki_InvalidPiece_NoRow⟩)
  have Mg_InvalidPiece : mg "InvalidPiece" = some (.ref ((tabT C_LayError C_InvalidPiece C_InvalidProgram C_InvalidText C_InvalidRow C_InvalidTool C_InvalidGoal C_InvalidCommand C_Refused C_NoPiece C_NoRow).cls 1)) := PySem.W.mg_of X G aC_InvalidPiece
  have Ie_Refused : IsEOk K (tabT C_LayError C_InvalidPiece C_InvalidProgram C_InvalidText C_InvalidRow C_InvalidTool C_InvalidGoal C_InvalidCommand C_Refused C_NoPiece C_NoRow) (.ref ((tabT C_LayError C_InvalidPiece C_InvalidProgram C_InvalidText C_InvalidRow C_InvalidTool C_InvalidGoal C_InvalidCommand C_Refused C_NoPiece C_NoRow).cls 8)) qI_Refused := isE_ok (fun p hp => by
    simp only [List.mem_cons, List.not_mem_nil, or_false] at hp
    rcases hp with rfl | rfl | rfl | rfl | rfl | rfl | rfl | rfl | rfl | rfl
    · exact ⟨ve_xc_InvalidPiece, ki_Refused_InvalidPiece⟩
    · exact ⟨ve_xc_InvalidProgram, ki_Refused_InvalidProgram⟩
    · exact ⟨ve_xc_InvalidText, ki_Refused_InvalidText⟩
    · exact ⟨ve_xc_InvalidRow, ki_Refused_InvalidRow⟩
    · exact ⟨ve_xc_InvalidTool, ki_Refused_InvalidTool⟩
    · exact ⟨ve_xc_InvalidGoal, ki_Refused_InvalidGoal⟩
    · exact ⟨ve_xc_InvalidCommand, ki_Refused_InvalidCommand⟩
    · exact ⟨ve_xc_Refused, ki_Refused_Refused⟩
    · exact ⟨ve_xc_NoPiece, ki_Refused_NoPiece⟩
    · exact ⟨ve_xc_NoRow, ki_Refused_NoRow⟩)
  have Mg_Refused : mg "Refused" = some (.ref ((tabT C_LayError C_InvalidPiece C_InvalidProgram C_InvalidText C_InvalidRow C_InvalidTool C_InvalidGoal C_InvalidCommand C_Refused C_NoPiece C_NoRow).cls 8)) := PySem.W.mg_of X G aC_Refused
  have Ie_InvalidTool : IsEOk K (tabT C_LayError C_InvalidPiece C_InvalidProgram C_InvalidText C_InvalidRow C_InvalidTool C_InvalidGoal C_InvalidCommand C_Refused C_NoPiece C_NoRow) (.ref ((tabT C_LayError C_InvalidPiece C_InvalidProgram C_InvalidText C_InvalidRow C_InvalidTool C_InvalidGoal C_InvalidCommand C_Refused C_NoPiece C_NoRow).cls 5)) qI_InvalidTool := isE_ok (fun p hp => by
    simp only [List.mem_cons, List.not_mem_nil, or_false] at hp
    rcases hp with rfl | rfl | rfl | rfl | rfl | rfl | rfl | rfl | rfl | rfl
    · exact ⟨ve_xc_InvalidPiece, ki_InvalidTool_InvalidPiece⟩
    · exact ⟨ve_xc_InvalidProgram, ki_InvalidTool_InvalidProgram⟩
    · exact ⟨ve_xc_InvalidText, ki_InvalidTool_InvalidText⟩
    · exact ⟨ve_xc_InvalidRow, ki_InvalidTool_InvalidRow⟩
    · exact ⟨ve_xc_InvalidTool, ki_InvalidTool_InvalidTool⟩
    · exact ⟨ve_xc_InvalidGoal, ki_InvalidTool_InvalidGoal⟩
    · exact ⟨ve_xc_InvalidCommand, ki_InvalidTool_InvalidCommand⟩
    · exact ⟨ve_xc_Refused, ki_InvalidTool_Refused⟩
    · exact ⟨ve_xc_NoPiece, ki_InvalidTool_NoPiece⟩
    · exact ⟨ve_xc_NoRow, ki_InvalidTool_NoRow⟩)
  have Mg_InvalidTool : mg "InvalidTool" = some (.ref ((tabT C_LayError C_InvalidPiece C_InvalidProgram C_InvalidText C_InvalidRow C_InvalidTool C_InvalidGoal C_InvalidCommand C_Refused C_NoPiece C_NoRow).cls 5)) := PySem.W.mg_of X G aC_InvalidTool
  have Ie_InvalidRow : IsEOk K (tabT C_LayError C_InvalidPiece C_InvalidProgram C_InvalidText C_InvalidRow C_InvalidTool C_InvalidGoal C_InvalidCommand C_Refused C_NoPiece C_NoRow) (.ref ((tabT C_LayError C_InvalidPiece C_InvalidProgram C_InvalidText C_InvalidRow C_InvalidTool C_InvalidGoal C_InvalidCommand C_Refused C_NoPiece C_NoRow).cls 4)) qI_InvalidRow := isE_ok (fun p hp => by
    simp only [List.mem_cons, List.not_mem_nil, or_false] at hp
    rcases hp with rfl | rfl | rfl | rfl | rfl | rfl | rfl | rfl | rfl | rfl
    · exact ⟨ve_xc_InvalidPiece, ki_InvalidRow_InvalidPiece⟩
    · exact ⟨ve_xc_InvalidProgram, ki_InvalidRow_InvalidProgram⟩
    · exact ⟨ve_xc_InvalidText, ki_InvalidRow_InvalidText⟩
    · exact ⟨ve_xc_InvalidRow, ki_InvalidRow_InvalidRow⟩
    · exact ⟨ve_xc_InvalidTool, ki_InvalidRow_InvalidTool⟩
    · exact ⟨ve_xc_InvalidGoal, ki_InvalidRow_InvalidGoal⟩
    · exact ⟨ve_xc_InvalidCommand, ki_InvalidRow_InvalidCommand⟩
    · exact ⟨ve_xc_Refused, ki_InvalidRow_Refused⟩
    · exact ⟨ve_xc_NoPiece, ki_InvalidRow_NoPiece⟩
    · exact ⟨ve_xc_NoRow, ki_InvalidRow_NoRow⟩)
  have Mg_InvalidRow : mg "InvalidRow" = some (.ref ((tabT C_LayError C_InvalidPiece C_InvalidProgram C_InvalidText C_InvalidRow C_InvalidTool C_InvalidGoal C_InvalidCommand C_Refused C_NoPiece C_NoRow).cls 4)) := PySem.W.mg_of X G aC_InvalidRow
  have Ie_InvalidGoal : IsEOk K (tabT C_LayError C_InvalidPiece C_InvalidProgram C_InvalidText C_InvalidRow C_InvalidTool C_InvalidGoal C_InvalidCommand C_Refused C_NoPiece C_NoRow) (.ref ((tabT C_LayError C_InvalidPiece C_InvalidProgram C_InvalidText C_InvalidRow C_InvalidTool C_InvalidGoal C_InvalidCommand C_Refused C_NoPiece C_NoRow).cls 6)) qI_InvalidGoal := isE_ok (fun p hp => by
    simp only [List.mem_cons, List.not_mem_nil, or_false] at hp
    rcases hp with rfl | rfl | rfl | rfl | rfl | rfl | rfl | rfl | rfl | rfl
    · exact ⟨ve_xc_InvalidPiece, ki_InvalidGoal_InvalidPiece⟩
    · exact ⟨ve_xc_InvalidProgram, ki_InvalidGoal_InvalidProgram⟩
    · exact ⟨ve_xc_InvalidText, ki_InvalidGoal_InvalidText⟩
    · exact ⟨ve_xc_InvalidRow, ki_InvalidGoal_InvalidRow⟩
    · exact ⟨ve_xc_InvalidTool, ki_InvalidGoal_InvalidTool⟩
    · exact ⟨ve_xc_InvalidGoal, ki_InvalidGoal_InvalidGoal⟩
    · exact ⟨ve_xc_InvalidCommand, ki_InvalidGoal_InvalidCommand⟩
    · exact ⟨ve_xc_Refused, ki_InvalidGoal_Refused⟩
    · exact ⟨ve_xc_NoPiece, ki_InvalidGoal_NoPiece⟩
    · exact ⟨ve_xc_NoRow, ki_InvalidGoal_NoRow⟩)
  have Mg_InvalidGoal : mg "InvalidGoal" = some (.ref ((tabT C_LayError C_InvalidPiece C_InvalidProgram C_InvalidText C_InvalidRow C_InvalidTool C_InvalidGoal C_InvalidCommand C_Refused C_NoPiece C_NoRow).cls 6)) := PySem.W.mg_of X G aC_InvalidGoal
  have Ie_NoRow : IsEOk K (tabT C_LayError C_InvalidPiece C_InvalidProgram C_InvalidText C_InvalidRow C_InvalidTool C_InvalidGoal C_InvalidCommand C_Refused C_NoPiece C_NoRow) (.ref ((tabT C_LayError C_InvalidPiece C_InvalidProgram C_InvalidText C_InvalidRow C_InvalidTool C_InvalidGoal C_InvalidCommand C_Refused C_NoPiece C_NoRow).cls 10)) qI_NoRow := isE_ok (fun p hp => by
    simp only [List.mem_cons, List.not_mem_nil, or_false] at hp
    rcases hp with rfl | rfl | rfl | rfl | rfl | rfl | rfl | rfl | rfl | rfl
    · exact ⟨ve_xc_InvalidPiece, ki_NoRow_InvalidPiece⟩
    · exact ⟨ve_xc_InvalidProgram, ki_NoRow_InvalidProgram⟩
    · exact ⟨ve_xc_InvalidText, ki_NoRow_InvalidText⟩
    · exact ⟨ve_xc_InvalidRow, ki_NoRow_InvalidRow⟩
    · exact ⟨ve_xc_InvalidTool, ki_NoRow_InvalidTool⟩
    · exact ⟨ve_xc_InvalidGoal, ki_NoRow_InvalidGoal⟩
    · exact ⟨ve_xc_InvalidCommand, ki_NoRow_InvalidCommand⟩
    · exact ⟨ve_xc_Refused, ki_NoRow_Refused⟩
    · exact ⟨ve_xc_NoPiece, ki_NoRow_NoPiece⟩
    · exact ⟨ve_xc_NoRow, ki_NoRow_NoRow⟩)
  have Mg_NoRow : mg "NoRow" = some (.ref ((tabT C_LayError C_InvalidPiece C_InvalidProgram C_InvalidText C_InvalidRow C_InvalidTool C_InvalidGoal C_InvalidCommand C_Refused C_NoPiece C_NoRow).cls 10)) := PySem.W.mg_of X G aC_NoRow
  have Ie_NoPiece : IsEOk K (tabT C_LayError C_InvalidPiece C_InvalidProgram C_InvalidText C_InvalidRow C_InvalidTool C_InvalidGoal C_InvalidCommand C_Refused C_NoPiece C_NoRow) (.ref ((tabT C_LayError C_InvalidPiece C_InvalidProgram C_InvalidText C_InvalidRow C_InvalidTool C_InvalidGoal C_InvalidCommand C_Refused C_NoPiece C_NoRow).cls 9)) qI_NoPiece := isE_ok (fun p hp => by
    simp only [List.mem_cons, List.not_mem_nil, or_false] at hp
    rcases hp with rfl | rfl | rfl | rfl | rfl | rfl | rfl | rfl | rfl | rfl
    · exact ⟨ve_xc_InvalidPiece, ki_NoPiece_InvalidPiece⟩
    · exact ⟨ve_xc_InvalidProgram, ki_NoPiece_InvalidProgram⟩
    · exact ⟨ve_xc_InvalidText, ki_NoPiece_InvalidText⟩
    · exact ⟨ve_xc_InvalidRow, ki_NoPiece_InvalidRow⟩
    · exact ⟨ve_xc_InvalidTool, ki_NoPiece_InvalidTool⟩
    · exact ⟨ve_xc_InvalidGoal, ki_NoPiece_InvalidGoal⟩
    · exact ⟨ve_xc_InvalidCommand, ki_NoPiece_InvalidCommand⟩
    · exact ⟨ve_xc_Refused, ki_NoPiece_Refused⟩
    · exact ⟨ve_xc_NoPiece, ki_NoPiece_NoPiece⟩
    · exact ⟨ve_xc_NoRow, ki_NoPiece_NoRow⟩)
  have Mg_NoPiece : mg "NoPiece" = some (.ref ((tabT C_LayError C_InvalidPiece C_InvalidProgram C_InvalidText C_InvalidRow C_InvalidTool C_InvalidGoal C_InvalidCommand C_Refused C_NoPiece C_NoRow).cls 9)) := PySem.W.mg_of X G aC_NoPiece
  have Ie_InvalidCommand : IsEOk K (tabT C_LayError C_InvalidPiece C_InvalidProgram C_InvalidText C_InvalidRow C_InvalidTool C_InvalidGoal C_InvalidCommand C_Refused C_NoPiece C_NoRow) (.ref ((tabT C_LayError C_InvalidPiece C_InvalidProgram C_InvalidText C_InvalidRow C_InvalidTool C_InvalidGoal C_InvalidCommand C_Refused C_NoPiece C_NoRow).cls 7)) qI_InvalidCommand := isE_ok (fun p hp => by
    simp only [List.mem_cons, List.not_mem_nil, or_false] at hp
    rcases hp with rfl | rfl | rfl | rfl | rfl | rfl | rfl | rfl | rfl | rfl
    · exact ⟨ve_xc_InvalidPiece, ki_InvalidCommand_InvalidPiece⟩
    · exact ⟨ve_xc_InvalidProgram, ki_InvalidCommand_InvalidProgram⟩
    · exact ⟨ve_xc_InvalidText, ki_InvalidCommand_InvalidText⟩
    · exact ⟨ve_xc_InvalidRow, ki_InvalidCommand_InvalidRow⟩
    · exact ⟨ve_xc_InvalidTool, ki_InvalidCommand_InvalidTool⟩
    · exact ⟨ve_xc_InvalidGoal, ki_InvalidCommand_InvalidGoal⟩
    · exact ⟨ve_xc_InvalidCommand, ki_InvalidCommand_InvalidCommand⟩
    · exact ⟨ve_xc_Refused, ki_InvalidCommand_Refused⟩
    · exact ⟨ve_xc_NoPiece, ki_InvalidCommand_NoPiece⟩
    · exact ⟨ve_xc_NoRow, ki_InvalidCommand_NoRow⟩)
  have Mg_InvalidCommand : mg "InvalidCommand" = some (.ref ((tabT C_LayError C_InvalidPiece C_InvalidProgram C_InvalidText C_InvalidRow C_InvalidTool C_InvalidGoal C_InvalidCommand C_Refused C_NoPiece C_NoRow).cls 7)) := PySem.W.mg_of X G aC_InvalidCommand
  have Xf_word : XfOk K (tabT C_LayError C_InvalidPiece C_InvalidProgram C_InvalidText C_InvalidRow C_InvalidTool C_InvalidGoal C_InvalidCommand C_Refused C_NoPiece C_NoRow) [1, 8] 0 "word" := ⟨by rfl, fun c hc => by
    have hc2 := mem_of_contains hc
    simp only [List.mem_cons, List.not_mem_nil, or_false] at hc2
    rcases hc2 with rfl | rfl
    · exact ⟨⟨ve_hg_InvalidPiece, ve_hk_InvalidPiece, eex_InvalidPiece, ve_hd_InvalidPiece⟩, eno_InvalidPiece⟩
    · exact ⟨⟨ve_hg_Refused, ve_hk_Refused, eex_Refused, ve_hd_Refused⟩, eno_Refused⟩⟩
  have Xf_at : XfOk K (tabT C_LayError C_InvalidPiece C_InvalidProgram C_InvalidText C_InvalidRow C_InvalidTool C_InvalidGoal C_InvalidCommand C_Refused C_NoPiece C_NoRow) [2, 3, 5, 9, 10] 1 "at" := ⟨by rfl, fun c hc => by
    have hc2 := mem_of_contains hc
    simp only [List.mem_cons, List.not_mem_nil, or_false] at hc2
    rcases hc2 with rfl | rfl | rfl | rfl | rfl
    · exact ⟨⟨ve_hg_InvalidProgram, ve_hk_InvalidProgram, eex_InvalidProgram, ve_hd_InvalidProgram⟩, eno_InvalidProgram⟩
    · exact ⟨⟨ve_hg_InvalidText, ve_hk_InvalidText, eex_InvalidText, ve_hd_InvalidText⟩, eno_InvalidText⟩
    · exact ⟨⟨ve_hg_InvalidTool, ve_hk_InvalidTool, eex_InvalidTool, ve_hd_InvalidTool⟩, eno_InvalidTool⟩
    · exact ⟨⟨ve_hg_NoPiece, ve_hk_NoPiece, eex_NoPiece, ve_hd_NoPiece⟩, eno_NoPiece⟩
    · exact ⟨⟨ve_hg_NoRow, ve_hk_NoRow, eex_NoRow, ve_hd_NoRow⟩, eno_NoRow⟩⟩
  have Xf_part : XfOk K (tabT C_LayError C_InvalidPiece C_InvalidProgram C_InvalidText C_InvalidRow C_InvalidTool C_InvalidGoal C_InvalidCommand C_Refused C_NoPiece C_NoRow) [4] 2 "part" := ⟨by rfl, fun c hc => by rw [contains_one hc]; exact ⟨⟨ve_hg_InvalidRow, ve_hk_InvalidRow, eex_InvalidRow, ve_hd_InvalidRow⟩, eno_InvalidRow⟩⟩
  have Ie_LayError : IsEOk K (tabT C_LayError C_InvalidPiece C_InvalidProgram C_InvalidText C_InvalidRow C_InvalidTool C_InvalidGoal C_InvalidCommand C_Refused C_NoPiece C_NoRow) (.ref ((tabT C_LayError C_InvalidPiece C_InvalidProgram C_InvalidText C_InvalidRow C_InvalidTool C_InvalidGoal C_InvalidCommand C_Refused C_NoPiece C_NoRow).cls 0)) qI_LayError := isE_ok (fun p hp => by
    simp only [List.mem_cons, List.not_mem_nil, or_false] at hp
    rcases hp with rfl | rfl | rfl | rfl | rfl | rfl | rfl | rfl | rfl | rfl
    · exact ⟨ve_xc_InvalidPiece, ki_LayError_InvalidPiece⟩
    · exact ⟨ve_xc_InvalidProgram, ki_LayError_InvalidProgram⟩
    · exact ⟨ve_xc_InvalidText, ki_LayError_InvalidText⟩
    · exact ⟨ve_xc_InvalidRow, ki_LayError_InvalidRow⟩
    · exact ⟨ve_xc_InvalidTool, ki_LayError_InvalidTool⟩
    · exact ⟨ve_xc_InvalidGoal, ki_LayError_InvalidGoal⟩
    · exact ⟨ve_xc_InvalidCommand, ki_LayError_InvalidCommand⟩
    · exact ⟨ve_xc_Refused, ki_LayError_Refused⟩
    · exact ⟨ve_xc_NoPiece, ki_LayError_NoPiece⟩
    · exact ⟨ve_xc_NoRow, ki_LayError_NoRow⟩)
  have Mg_LayError : mg "LayError" = some (.ref ((tabT C_LayError C_InvalidPiece C_InvalidProgram C_InvalidText C_InvalidRow C_InvalidTool C_InvalidGoal C_InvalidCommand C_Refused C_NoPiece C_NoRow).cls 0)) := PySem.W.mg_of X G aC_LayError
  have Ie_ValueError : IsEOk K (tabT C_LayError C_InvalidPiece C_InvalidProgram C_InvalidText C_InvalidRow C_InvalidTool C_InvalidGoal C_InvalidCommand C_Refused C_NoPiece C_NoRow) (.type "ValueError") qI_ValueError := isE_ok (fun p hp => by
    simp only [List.mem_cons, List.not_mem_nil, or_false] at hp
    rcases hp with rfl | rfl | rfl | rfl | rfl | rfl | rfl | rfl | rfl | rfl
    · exact ⟨ve_xc_InvalidPiece, ki_ValueError_InvalidPiece⟩
    · exact ⟨ve_xc_InvalidProgram, ki_ValueError_InvalidProgram⟩
    · exact ⟨ve_xc_InvalidText, ki_ValueError_InvalidText⟩
    · exact ⟨ve_xc_InvalidRow, ki_ValueError_InvalidRow⟩
    · exact ⟨ve_xc_InvalidTool, ki_ValueError_InvalidTool⟩
    · exact ⟨ve_xc_InvalidGoal, ki_ValueError_InvalidGoal⟩
    · exact ⟨ve_xc_InvalidCommand, ki_ValueError_InvalidCommand⟩
    · exact ⟨ve_xc_Refused, ki_ValueError_Refused⟩
    · exact ⟨ve_xc_NoPiece, ki_ValueError_NoPiece⟩
    · exact ⟨ve_xc_NoRow, ki_ValueError_NoRow⟩)
  have U_law_box := fun_mk (st := st_law_box) l_law_box c_law_box k_law_box
  have B_law_box := U_law_box.binds (ps := ["_law_script", "_law_k", "_law_own"]) fun _ _ _ _ _ _ us hl => match us, hl with | [_, _, _], _ => rfl
  have U_law_take := fun_mk (st := st_law_take) l_law_take c_law_take k_law_take
  have B_law_take := U_law_take.binds (ps := ["_law_box_here", "_law_many"]) fun _ _ _ _ _ _ us hl => match us, hl with | [_, _], _ => rfl
  have U_law_pick := fun_mk (st := st_law_pick) l_law_pick c_law_pick k_law_pick
  have B_law_pick := U_law_pick.binds (ps := ["_law_box_here", "_law_items"]) fun _ _ _ _ _ _ us hl => match us, hl with | [_, _], _ => rfl
  have U_law_value := fun_mk (st := st_law_value) l_law_value c_law_value k_law_value
  have B_law_value := U_law_value.binds (ps := ["_law_box_here"]) fun _ _ _ _ _ _ us hl => match us, hl with | [_], _ => rfl
  have U_law_made := fun_mk (st := st_law_made) l_law_made c_law_made k_law_made
  have B_law_made := U_law_made.binds (ps := ["_law_some"]) fun _ _ _ _ _ _ us hl => match us, hl with | [_], _ => rfl
  have U_law_sorts := fun_mk (st := st_law_sorts) l_law_sorts c_law_sorts k_law_sorts
  have B_law_sorts := U_law_sorts.binds (ps := ["_law_one"]) fun _ _ _ _ _ _ us hl => match us, hl with | [_], _ => rfl
  have U_law_held := fun_mk (st := st_law_held) l_law_held c_law_held k_law_held
  have B_law_held := U_law_held.binds (ps := ["_law_made_here"]) fun _ _ _ _ _ _ us hl => match us, hl with | [_], _ => rfl
  have U_law_named := fun_mk (st := st_law_named) l_law_named c_law_named k_law_named
  have B_law_named := U_law_named.binds (ps := ["_law_some"]) fun _ _ _ _ _ _ us hl => match us, hl with | [_], _ => rfl
  have U_law := fun_mk (st := st_law) l_law c_law k_law
  have D_law_box : DefOk l.prog w K mg base (tabT C_LayError C_InvalidPiece C_InvalidProgram C_InvalidText C_InvalidRow C_InvalidTool C_InvalidGoal C_InvalidCommand C_Refused C_NoPiece C_NoRow) "_law_box" 1 3 F_law_box [] := ⟨f_law_box, _, ["_law_script", "_law_k", "_law_own"], [], [], PySem.W.mg_of X G a_law_box, k_law_box, B_law_box, .nil, fun _ _ _ => .nil, ok_law_box U_law_box b_len b_abs b_int⟩
  have D_law_take : DefOk l.prog w K mg base (tabT C_LayError C_InvalidPiece C_InvalidProgram C_InvalidText C_InvalidRow C_InvalidTool C_InvalidGoal C_InvalidCommand C_Refused C_NoPiece C_NoRow) "_law_take" 1 2 F_law_take [] := ⟨f_law_take, _, ["_law_box_here", "_law_many"], [], [], PySem.W.mg_of X G a_law_take, k_law_take, B_law_take, .nil, fun _ _ _ => .nil, ok_law_take U_law_take b_int⟩
  have D_law_pick : DefOk l.prog w K mg base (tabT C_LayError C_InvalidPiece C_InvalidProgram C_InvalidText C_InvalidRow C_InvalidTool C_InvalidGoal C_InvalidCommand C_Refused C_NoPiece C_NoRow) "_law_pick" 2 2 F_law_pick [] := ⟨f_law_pick, _, ["_law_box_here", "_law_items"], [], [], PySem.W.mg_of X G a_law_pick, k_law_pick, B_law_pick, .nil, fun _ _ _ => .nil, ok_law_pick U_law_pick b_len D_law_take⟩
  have D_law_value : DefOk l.prog w K mg base (tabT C_LayError C_InvalidPiece C_InvalidProgram C_InvalidText C_InvalidRow C_InvalidTool C_InvalidGoal C_InvalidCommand C_Refused C_NoPiece C_NoRow) "_law_value" 3 1 F_law_value [] := ⟨f_law_value, _, ["_law_box_here"], [], [], PySem.W.mg_of X G a_law_value, k_law_value, B_law_value, .nil, fun _ _ _ => .nil, ok_law_value U_law_value b_range D_law_pick⟩
  have D_law_made : DefOk l.prog w K mg base (tabT C_LayError C_InvalidPiece C_InvalidProgram C_InvalidText C_InvalidRow C_InvalidTool C_InvalidGoal C_InvalidCommand C_Refused C_NoPiece C_NoRow) "_law_made" 3 1 F_law_made [] := ⟨f_law_made, _, ["_law_some"], [], [], PySem.W.mg_of X G a_law_made, k_law_made, B_law_made, .nil, fun _ _ _ => .nil, ok_law_made U_law_made E_InvalidRow E_InvalidText E_InvalidProgram E_InvalidPiece E_NoRow E_NoPiece E_Refused E_InvalidTool E0_InvalidCommand E0_InvalidGoal⟩
  have D_law_sorts : DefOk l.prog w K mg base (tabT C_LayError C_InvalidPiece C_InvalidProgram C_InvalidText C_InvalidRow C_InvalidTool C_InvalidGoal C_InvalidCommand C_Refused C_NoPiece C_NoRow) "_law_sorts" 1 1 F_law_sorts [] := ⟨f_law_sorts, _, ["_law_one"], [], [], PySem.W.mg_of X G a_law_sorts, k_law_sorts, B_law_sorts, .nil, fun _ _ _ => .nil, ok_law_sorts U_law_sorts b_isinstance Ie_InvalidText Mg_InvalidText Ie_InvalidProgram Mg_InvalidProgram Ie_InvalidPiece Mg_InvalidPiece Ie_Refused Mg_Refused Ie_InvalidTool Mg_InvalidTool Ie_InvalidRow Mg_InvalidRow Ie_InvalidGoal Mg_InvalidGoal Ie_NoRow Mg_NoRow Ie_NoPiece Mg_NoPiece Ie_InvalidCommand Mg_InvalidCommand⟩
  have D_law_held : DefOk l.prog w K mg base (tabT C_LayError C_InvalidPiece C_InvalidProgram C_InvalidText C_InvalidRow C_InvalidTool C_InvalidGoal C_InvalidCommand C_Refused C_NoPiece C_NoRow) "_law_held" 1 1 F_law_held [] := ⟨f_law_held, _, ["_law_made_here"], [], [], PySem.W.mg_of X G a_law_held, k_law_held, B_law_held, .nil, fun _ _ _ => .nil, ok_law_held U_law_held Xf_word Xf_at Xf_part⟩
  have D_law_named : DefOk l.prog w K mg base (tabT C_LayError C_InvalidPiece C_InvalidProgram C_InvalidText C_InvalidRow C_InvalidTool C_InvalidGoal C_InvalidCommand C_Refused C_NoPiece C_NoRow) "_law_named" 3 1 F_law_named [] := ⟨f_law_named, _, ["_law_some"], [], [], PySem.W.mg_of X G a_law_named, k_law_named, B_law_named, .nil, fun _ _ _ => .nil, ok_law_named U_law_named E_InvalidText EK_InvalidText E_InvalidProgram EK_InvalidProgram E_InvalidPiece EK_InvalidPiece E_Refused EK_Refused E_InvalidTool EK_InvalidTool E_InvalidRow EK_InvalidRow E_NoRow EK_NoRow E_NoPiece EK_NoPiece⟩
  exact (ok_law U_law b_len b_min b_max b_range D_law_box D_law_value D_law_made b_enumerate D_law_sorts b_isinstance Ie_LayError Mg_LayError Ie_ValueError b_ValueError D_law_held b_repr D_law_named).imp (law_imp fun ns hn => law_true hn)
theorem facts_mk {l : PySem.W.OpenLaw} {w : World} {K : PySem.W.Frag} {h : Heap} {mg : Str → Option Value} {fa : Addr} (X : K.In h) (G : h.Ns mainGlobals mg) (hfa : mg "law" = some (.ref fa)) (c : SaysQ LawR.fsQ LawR.fnQ K)  :
    ∃ fd : FuncData, (∀ (s : Shared) (v : Value), BindsTo s fd ⟨[v], []⟩ [("_law_script", v)]) ∧ ∀ base : Heap, K.In base → base.Ns mainGlobals mg → FnG l.prog w K mg base 4 fa fd ["_law_script"] (spLaw K) := by
  have aC_LayError : PySem.W.nsIn K mainGlobals "LayError" = some (some (.ref (He.ga K "LayError"))) := of_decide_eq_true (c.fact 0 (f := LawR.fq0) rfl)
  have aC_InvalidPiece : PySem.W.nsIn K mainGlobals "InvalidPiece" = some (some (.ref (He.ga K "InvalidPiece"))) := of_decide_eq_true (c.fact 1 (f := LawR.fq1) rfl)
  have aC_InvalidProgram : PySem.W.nsIn K mainGlobals "InvalidProgram" = some (some (.ref (He.ga K "InvalidProgram"))) := of_decide_eq_true (c.fact 2 (f := LawR.fq2) rfl)
  have aC_InvalidText : PySem.W.nsIn K mainGlobals "InvalidText" = some (some (.ref (He.ga K "InvalidText"))) := of_decide_eq_true (c.fact 3 (f := LawR.fq3) rfl)
  have aC_InvalidRow : PySem.W.nsIn K mainGlobals "InvalidRow" = some (some (.ref (He.ga K "InvalidRow"))) := of_decide_eq_true (c.fact 4 (f := LawR.fq4) rfl)
  have aC_InvalidTool : PySem.W.nsIn K mainGlobals "InvalidTool" = some (some (.ref (He.ga K "InvalidTool"))) := of_decide_eq_true (c.fact 5 (f := LawR.fq5) rfl)
  have aC_InvalidGoal : PySem.W.nsIn K mainGlobals "InvalidGoal" = some (some (.ref (He.ga K "InvalidGoal"))) := of_decide_eq_true (c.fact 6 (f := LawR.fq6) rfl)
  have aC_InvalidCommand : PySem.W.nsIn K mainGlobals "InvalidCommand" = some (some (.ref (He.ga K "InvalidCommand"))) := of_decide_eq_true (c.fact 7 (f := LawR.fq7) rfl)
  have aC_Refused : PySem.W.nsIn K mainGlobals "Refused" = some (some (.ref (He.ga K "Refused"))) := of_decide_eq_true (c.fact 8 (f := LawR.fq8) rfl)
  have aC_NoPiece : PySem.W.nsIn K mainGlobals "NoPiece" = some (some (.ref (He.ga K "NoPiece"))) := of_decide_eq_true (c.fact 9 (f := LawR.fq9) rfl)
  have aC_NoRow : PySem.W.nsIn K mainGlobals "NoRow" = some (some (.ref (He.ga K "NoRow"))) := of_decide_eq_true (c.fact 10 (f := LawR.fq10) rfl)
  have z_ValueError : PySem.W.nsIn K mainGlobals "ValueError" = some none := of_decide_eq_true (c.fact 11 (f := LawR.fq11) rfl)
  have z_abs : PySem.W.nsIn K mainGlobals "abs" = some none := of_decide_eq_true (c.fact 12 (f := LawR.fq12) rfl)
  have z_enumerate : PySem.W.nsIn K mainGlobals "enumerate" = some none := of_decide_eq_true (c.fact 13 (f := LawR.fq13) rfl)
  have z_int : PySem.W.nsIn K mainGlobals "int" = some none := of_decide_eq_true (c.fact 14 (f := LawR.fq14) rfl)
  have z_isinstance : PySem.W.nsIn K mainGlobals "isinstance" = some none := of_decide_eq_true (c.fact 15 (f := LawR.fq15) rfl)
  have z_len : PySem.W.nsIn K mainGlobals "len" = some none := of_decide_eq_true (c.fact 16 (f := LawR.fq16) rfl)
  have z_max : PySem.W.nsIn K mainGlobals "max" = some none := of_decide_eq_true (c.fact 17 (f := LawR.fq17) rfl)
  have z_min : PySem.W.nsIn K mainGlobals "min" = some none := of_decide_eq_true (c.fact 18 (f := LawR.fq18) rfl)
  have z_range : PySem.W.nsIn K mainGlobals "range" = some none := of_decide_eq_true (c.fact 19 (f := LawR.fq19) rfl)
  have z_repr : PySem.W.nsIn K mainGlobals "repr" = some none := of_decide_eq_true (c.fact 20 (f := LawR.fq20) rfl)
  obtain ⟨_, _, _, _, _, _, _, _, _, _, _, _, _, _, _, xL_InvalidRow, xr_InvalidRow⟩ := exc_look (K := K) (C := He.ga K "InvalidRow") (c.fact 21 (f := LawR.fq21) rfl)
  have esa_InvalidRow : PySem.W.findIn K (.ref (He.ga K "InvalidRow")) "__setattr__" = some (some (.builtin "object.__setattr__")) := of_decide_eq_true (c.fact 22 (f := LawR.fq22) rfl)
  have eex_InvalidRow : PySem.W.subIn K (.ref (He.ga K "InvalidRow")) (.type "BaseException") = some true := of_decide_eq_true (c.fact 23 (f := LawR.fq23) rfl)
  have ety_InvalidRow : PySem.W.typeIn K (.ref (He.ga K "InvalidRow")) = some (.type "type") := of_decide_eq_true (c.fact 24 (f := LawR.fq24) rfl)
  have ekc_InvalidRow : PySem.W.keepIn K (.ref (He.ga K "InvalidRow")) = true := of_decide_eq_true (c.fact 25 (f := LawR.fq25) rfl)
  have eno_InvalidRow : PySem.W.findIn K (.ref (He.ga K "InvalidRow")) "part" = some none := of_decide_eq_true (c.fact 26 (f := LawR.fq26) rfl)
  have ea_InvalidRow : PySem.W.findIn K (.ref (He.ga K "InvalidRow")) "__init__" = some (some (.ref (He.ma K (He.ga K "InvalidRow") "__init__"))) := of_decide_eq_true (c.fact 27 (f := LawR.fq27) rfl)
  have et_InvalidRow : PySem.W.typeIn K (.ref (He.ma K (He.ga K "InvalidRow") "__init__")) = some (.type "function") := of_decide_eq_true (c.fact 28 (f := LawR.fq28) rfl)
  obtain ⟨_, _, _, _, _, _, _, _, el_InvalidRow⟩ := tx_look (K := K) (a := (He.ma K (He.ga K "InvalidRow") "__init__")) (nm := "__init__") (q := "InvalidRow.__init__") (st := st_InvalidRowD_initD) (dV := .none) (c.text 0 (d := LawR.dq0) rfl) (of_decide_eq_true (c.fact 29 (f := LawR.fq29) rfl))
  have ec_InvalidRow : PySem.W.codeIn K (fdAt K (He.ma K (He.ga K "InvalidRow") "__init__")).code "InvalidRow.__init__" = true := of_decide_eq_true (c.fact 30 (f := LawR.fq30) rfl)
  have ek_InvalidRow : PySem.W.keepIn K (.ref (He.ma K (He.ga K "InvalidRow") "__init__")) = true := of_decide_eq_true (c.fact 31 (f := LawR.fq31) rfl)
  obtain ⟨_, _, _, _, _, _, _, _, _, _, _, _, _, _, _, xL_InvalidText, xr_InvalidText⟩ := exc_look (K := K) (C := He.ga K "InvalidText") (c.fact 32 (f := LawR.fq32) rfl)
  have esa_InvalidText : PySem.W.findIn K (.ref (He.ga K "InvalidText")) "__setattr__" = some (some (.builtin "object.__setattr__")) := of_decide_eq_true (c.fact 33 (f := LawR.fq33) rfl)
  have eex_InvalidText : PySem.W.subIn K (.ref (He.ga K "InvalidText")) (.type "BaseException") = some true := of_decide_eq_true (c.fact 34 (f := LawR.fq34) rfl)
  have ety_InvalidText : PySem.W.typeIn K (.ref (He.ga K "InvalidText")) = some (.type "type") := of_decide_eq_true (c.fact 35 (f := LawR.fq35) rfl)
  have ekc_InvalidText : PySem.W.keepIn K (.ref (He.ga K "InvalidText")) = true := of_decide_eq_true (c.fact 36 (f := LawR.fq36) rfl)
  have eno_InvalidText : PySem.W.findIn K (.ref (He.ga K "InvalidText")) "at" = some none := of_decide_eq_true (c.fact 37 (f := LawR.fq37) rfl)
  have ea_InvalidText : PySem.W.findIn K (.ref (He.ga K "InvalidText")) "__init__" = some (some (.ref (He.ma K (He.ga K "InvalidText") "__init__"))) := of_decide_eq_true (c.fact 38 (f := LawR.fq38) rfl)
  have et_InvalidText : PySem.W.typeIn K (.ref (He.ma K (He.ga K "InvalidText") "__init__")) = some (.type "function") := of_decide_eq_true (c.fact 39 (f := LawR.fq39) rfl)
  obtain ⟨_, _, _, _, _, _, _, _, el_InvalidText⟩ := tx_look (K := K) (a := (He.ma K (He.ga K "InvalidText") "__init__")) (nm := "__init__") (q := "InvalidText.__init__") (st := st_InvalidTextD_initD) (dV := .none) (c.text 1 (d := LawR.dq1) rfl) (of_decide_eq_true (c.fact 40 (f := LawR.fq40) rfl))
  have ec_InvalidText : PySem.W.codeIn K (fdAt K (He.ma K (He.ga K "InvalidText") "__init__")).code "InvalidText.__init__" = true := of_decide_eq_true (c.fact 41 (f := LawR.fq41) rfl)
  have ek_InvalidText : PySem.W.keepIn K (.ref (He.ma K (He.ga K "InvalidText") "__init__")) = true := of_decide_eq_true (c.fact 42 (f := LawR.fq42) rfl)
  obtain ⟨_, _, _, _, _, _, _, _, _, _, _, _, _, _, _, xL_InvalidProgram, xr_InvalidProgram⟩ := exc_look (K := K) (C := He.ga K "InvalidProgram") (c.fact 43 (f := LawR.fq43) rfl)
  have esa_InvalidProgram : PySem.W.findIn K (.ref (He.ga K "InvalidProgram")) "__setattr__" = some (some (.builtin "object.__setattr__")) := of_decide_eq_true (c.fact 44 (f := LawR.fq44) rfl)
  have eex_InvalidProgram : PySem.W.subIn K (.ref (He.ga K "InvalidProgram")) (.type "BaseException") = some true := of_decide_eq_true (c.fact 45 (f := LawR.fq45) rfl)
  have ety_InvalidProgram : PySem.W.typeIn K (.ref (He.ga K "InvalidProgram")) = some (.type "type") := of_decide_eq_true (c.fact 46 (f := LawR.fq46) rfl)
  have ekc_InvalidProgram : PySem.W.keepIn K (.ref (He.ga K "InvalidProgram")) = true := of_decide_eq_true (c.fact 47 (f := LawR.fq47) rfl)
  have eno_InvalidProgram : PySem.W.findIn K (.ref (He.ga K "InvalidProgram")) "at" = some none := of_decide_eq_true (c.fact 48 (f := LawR.fq48) rfl)
  have ea_InvalidProgram : PySem.W.findIn K (.ref (He.ga K "InvalidProgram")) "__init__" = some (some (.ref (He.ma K (He.ga K "InvalidProgram") "__init__"))) := of_decide_eq_true (c.fact 49 (f := LawR.fq49) rfl)
  have et_InvalidProgram : PySem.W.typeIn K (.ref (He.ma K (He.ga K "InvalidProgram") "__init__")) = some (.type "function") := of_decide_eq_true (c.fact 50 (f := LawR.fq50) rfl)
  obtain ⟨_, _, _, _, _, _, _, _, el_InvalidProgram⟩ := tx_look (K := K) (a := (He.ma K (He.ga K "InvalidProgram") "__init__")) (nm := "__init__") (q := "InvalidProgram.__init__") (st := st_InvalidProgramD_initD) (dV := .none) (c.text 2 (d := LawR.dq2) rfl) (of_decide_eq_true (c.fact 51 (f := LawR.fq51) rfl))
  have ec_InvalidProgram : PySem.W.codeIn K (fdAt K (He.ma K (He.ga K "InvalidProgram") "__init__")).code "InvalidProgram.__init__" = true := of_decide_eq_true (c.fact 52 (f := LawR.fq52) rfl)
  have ek_InvalidProgram : PySem.W.keepIn K (.ref (He.ma K (He.ga K "InvalidProgram") "__init__")) = true := of_decide_eq_true (c.fact 53 (f := LawR.fq53) rfl)
  obtain ⟨_, _, _, _, _, _, _, _, _, _, _, _, _, _, _, xL_InvalidPiece, xr_InvalidPiece⟩ := exc_look (K := K) (C := He.ga K "InvalidPiece") (c.fact 54 (f := LawR.fq54) rfl)
  have esa_InvalidPiece : PySem.W.findIn K (.ref (He.ga K "InvalidPiece")) "__setattr__" = some (some (.builtin "object.__setattr__")) := of_decide_eq_true (c.fact 55 (f := LawR.fq55) rfl)
  have eex_InvalidPiece : PySem.W.subIn K (.ref (He.ga K "InvalidPiece")) (.type "BaseException") = some true := of_decide_eq_true (c.fact 56 (f := LawR.fq56) rfl)
  have ety_InvalidPiece : PySem.W.typeIn K (.ref (He.ga K "InvalidPiece")) = some (.type "type") := of_decide_eq_true (c.fact 57 (f := LawR.fq57) rfl)
  have ekc_InvalidPiece : PySem.W.keepIn K (.ref (He.ga K "InvalidPiece")) = true := of_decide_eq_true (c.fact 58 (f := LawR.fq58) rfl)
  have eno_InvalidPiece : PySem.W.findIn K (.ref (He.ga K "InvalidPiece")) "word" = some none := of_decide_eq_true (c.fact 59 (f := LawR.fq59) rfl)
  have ea_InvalidPiece : PySem.W.findIn K (.ref (He.ga K "InvalidPiece")) "__init__" = some (some (.ref (He.ma K (He.ga K "InvalidPiece") "__init__"))) := of_decide_eq_true (c.fact 60 (f := LawR.fq60) rfl)
  have et_InvalidPiece : PySem.W.typeIn K (.ref (He.ma K (He.ga K "InvalidPiece") "__init__")) = some (.type "function") := of_decide_eq_true (c.fact 61 (f := LawR.fq61) rfl)
  obtain ⟨_, _, _, _, _, _, _, _, el_InvalidPiece⟩ := tx_look (K := K) (a := (He.ma K (He.ga K "InvalidPiece") "__init__")) (nm := "__init__") (q := "InvalidPiece.__init__") (st := st_InvalidPieceD_initD) (dV := .none) (c.text 3 (d := LawR.dq3) rfl) (of_decide_eq_true (c.fact 62 (f := LawR.fq62) rfl))
  have ec_InvalidPiece : PySem.W.codeIn K (fdAt K (He.ma K (He.ga K "InvalidPiece") "__init__")).code "InvalidPiece.__init__" = true := of_decide_eq_true (c.fact 63 (f := LawR.fq63) rfl)
  have ek_InvalidPiece : PySem.W.keepIn K (.ref (He.ma K (He.ga K "InvalidPiece") "__init__")) = true := of_decide_eq_true (c.fact 64 (f := LawR.fq64) rfl)
  obtain ⟨_, _, _, _, _, _, _, _, _, _, _, _, _, _, _, xL_NoRow, xr_NoRow⟩ := exc_look (K := K) (C := He.ga K "NoRow") (c.fact 65 (f := LawR.fq65) rfl)
  have esa_NoRow : PySem.W.findIn K (.ref (He.ga K "NoRow")) "__setattr__" = some (some (.builtin "object.__setattr__")) := of_decide_eq_true (c.fact 66 (f := LawR.fq66) rfl)
  have eex_NoRow : PySem.W.subIn K (.ref (He.ga K "NoRow")) (.type "BaseException") = some true := of_decide_eq_true (c.fact 67 (f := LawR.fq67) rfl)
  have ety_NoRow : PySem.W.typeIn K (.ref (He.ga K "NoRow")) = some (.type "type") := of_decide_eq_true (c.fact 68 (f := LawR.fq68) rfl)
  have ekc_NoRow : PySem.W.keepIn K (.ref (He.ga K "NoRow")) = true := of_decide_eq_true (c.fact 69 (f := LawR.fq69) rfl)
  have eno_NoRow : PySem.W.findIn K (.ref (He.ga K "NoRow")) "at" = some none := of_decide_eq_true (c.fact 70 (f := LawR.fq70) rfl)
  have ea_NoRow : PySem.W.findIn K (.ref (He.ga K "NoRow")) "__init__" = some (some (.ref (He.ma K (He.ga K "NoRow") "__init__"))) := of_decide_eq_true (c.fact 71 (f := LawR.fq71) rfl)
  have et_NoRow : PySem.W.typeIn K (.ref (He.ma K (He.ga K "NoRow") "__init__")) = some (.type "function") := of_decide_eq_true (c.fact 72 (f := LawR.fq72) rfl)
  obtain ⟨_, _, _, _, _, _, _, _, el_NoRow⟩ := tx_look (K := K) (a := (He.ma K (He.ga K "NoRow") "__init__")) (nm := "__init__") (q := "NoRow.__init__") (st := st_NoRowD_initD) (dV := .none) (c.text 4 (d := LawR.dq4) rfl) (of_decide_eq_true (c.fact 73 (f := LawR.fq73) rfl))
  have ec_NoRow : PySem.W.codeIn K (fdAt K (He.ma K (He.ga K "NoRow") "__init__")).code "NoRow.__init__" = true := of_decide_eq_true (c.fact 74 (f := LawR.fq74) rfl)
  have ek_NoRow : PySem.W.keepIn K (.ref (He.ma K (He.ga K "NoRow") "__init__")) = true := of_decide_eq_true (c.fact 75 (f := LawR.fq75) rfl)
  obtain ⟨_, _, _, _, _, _, _, _, _, _, _, _, _, _, _, xL_NoPiece, xr_NoPiece⟩ := exc_look (K := K) (C := He.ga K "NoPiece") (c.fact 76 (f := LawR.fq76) rfl)
  have esa_NoPiece : PySem.W.findIn K (.ref (He.ga K "NoPiece")) "__setattr__" = some (some (.builtin "object.__setattr__")) := of_decide_eq_true (c.fact 77 (f := LawR.fq77) rfl)
  have eex_NoPiece : PySem.W.subIn K (.ref (He.ga K "NoPiece")) (.type "BaseException") = some true := of_decide_eq_true (c.fact 78 (f := LawR.fq78) rfl)
  have ety_NoPiece : PySem.W.typeIn K (.ref (He.ga K "NoPiece")) = some (.type "type") := of_decide_eq_true (c.fact 79 (f := LawR.fq79) rfl)
  have ekc_NoPiece : PySem.W.keepIn K (.ref (He.ga K "NoPiece")) = true := of_decide_eq_true (c.fact 80 (f := LawR.fq80) rfl)
  have eno_NoPiece : PySem.W.findIn K (.ref (He.ga K "NoPiece")) "at" = some none := of_decide_eq_true (c.fact 81 (f := LawR.fq81) rfl)
  have ea_NoPiece : PySem.W.findIn K (.ref (He.ga K "NoPiece")) "__init__" = some (some (.ref (He.ma K (He.ga K "NoPiece") "__init__"))) := of_decide_eq_true (c.fact 82 (f := LawR.fq82) rfl)
  have et_NoPiece : PySem.W.typeIn K (.ref (He.ma K (He.ga K "NoPiece") "__init__")) = some (.type "function") := of_decide_eq_true (c.fact 83 (f := LawR.fq83) rfl)
  obtain ⟨_, _, _, _, _, _, _, _, el_NoPiece⟩ := tx_look (K := K) (a := (He.ma K (He.ga K "NoPiece") "__init__")) (nm := "__init__") (q := "NoPiece.__init__") (st := st_NoPieceD_initD) (dV := .none) (c.text 5 (d := LawR.dq5) rfl) (of_decide_eq_true (c.fact 84 (f := LawR.fq84) rfl))
  have ec_NoPiece : PySem.W.codeIn K (fdAt K (He.ma K (He.ga K "NoPiece") "__init__")).code "NoPiece.__init__" = true := of_decide_eq_true (c.fact 85 (f := LawR.fq85) rfl)
  have ek_NoPiece : PySem.W.keepIn K (.ref (He.ma K (He.ga K "NoPiece") "__init__")) = true := of_decide_eq_true (c.fact 86 (f := LawR.fq86) rfl)
  obtain ⟨_, _, _, _, _, _, _, _, _, _, _, _, _, _, _, xL_Refused, xr_Refused⟩ := exc_look (K := K) (C := He.ga K "Refused") (c.fact 87 (f := LawR.fq87) rfl)
  have esa_Refused : PySem.W.findIn K (.ref (He.ga K "Refused")) "__setattr__" = some (some (.builtin "object.__setattr__")) := of_decide_eq_true (c.fact 88 (f := LawR.fq88) rfl)
  have eex_Refused : PySem.W.subIn K (.ref (He.ga K "Refused")) (.type "BaseException") = some true := of_decide_eq_true (c.fact 89 (f := LawR.fq89) rfl)
  have ety_Refused : PySem.W.typeIn K (.ref (He.ga K "Refused")) = some (.type "type") := of_decide_eq_true (c.fact 90 (f := LawR.fq90) rfl)
  have ekc_Refused : PySem.W.keepIn K (.ref (He.ga K "Refused")) = true := of_decide_eq_true (c.fact 91 (f := LawR.fq91) rfl)
  have eno_Refused : PySem.W.findIn K (.ref (He.ga K "Refused")) "word" = some none := of_decide_eq_true (c.fact 92 (f := LawR.fq92) rfl)
  have ea_Refused : PySem.W.findIn K (.ref (He.ga K "Refused")) "__init__" = some (some (.ref (He.ma K (He.ga K "Refused") "__init__"))) := of_decide_eq_true (c.fact 93 (f := LawR.fq93) rfl)
  have et_Refused : PySem.W.typeIn K (.ref (He.ma K (He.ga K "Refused") "__init__")) = some (.type "function") := of_decide_eq_true (c.fact 94 (f := LawR.fq94) rfl)
  obtain ⟨_, _, _, _, _, _, _, _, el_Refused⟩ := tx_look (K := K) (a := (He.ma K (He.ga K "Refused") "__init__")) (nm := "__init__") (q := "Refused.__init__") (st := st_RefusedD_initD) (dV := .none) (c.text 6 (d := LawR.dq6) rfl) (of_decide_eq_true (c.fact 95 (f := LawR.fq95) rfl))
  have ec_Refused : PySem.W.codeIn K (fdAt K (He.ma K (He.ga K "Refused") "__init__")).code "Refused.__init__" = true := of_decide_eq_true (c.fact 96 (f := LawR.fq96) rfl)
  have ek_Refused : PySem.W.keepIn K (.ref (He.ma K (He.ga K "Refused") "__init__")) = true := of_decide_eq_true (c.fact 97 (f := LawR.fq97) rfl)
  obtain ⟨_, _, _, _, _, _, _, _, _, _, _, _, _, _, _, xL_InvalidTool, xr_InvalidTool⟩ := exc_look (K := K) (C := He.ga K "InvalidTool") (c.fact 98 (f := LawR.fq98) rfl)
  have esa_InvalidTool : PySem.W.findIn K (.ref (He.ga K "InvalidTool")) "__setattr__" = some (some (.builtin "object.__setattr__")) := of_decide_eq_true (c.fact 99 (f := LawR.fq99) rfl)
  have eex_InvalidTool : PySem.W.subIn K (.ref (He.ga K "InvalidTool")) (.type "BaseException") = some true := of_decide_eq_true (c.fact 100 (f := LawR.fq100) rfl)
  have ety_InvalidTool : PySem.W.typeIn K (.ref (He.ga K "InvalidTool")) = some (.type "type") := of_decide_eq_true (c.fact 101 (f := LawR.fq101) rfl)
  have ekc_InvalidTool : PySem.W.keepIn K (.ref (He.ga K "InvalidTool")) = true := of_decide_eq_true (c.fact 102 (f := LawR.fq102) rfl)
  have eno_InvalidTool : PySem.W.findIn K (.ref (He.ga K "InvalidTool")) "at" = some none := of_decide_eq_true (c.fact 103 (f := LawR.fq103) rfl)
  have ea_InvalidTool : PySem.W.findIn K (.ref (He.ga K "InvalidTool")) "__init__" = some (some (.ref (He.ma K (He.ga K "InvalidTool") "__init__"))) := of_decide_eq_true (c.fact 104 (f := LawR.fq104) rfl)
  have et_InvalidTool : PySem.W.typeIn K (.ref (He.ma K (He.ga K "InvalidTool") "__init__")) = some (.type "function") := of_decide_eq_true (c.fact 105 (f := LawR.fq105) rfl)
  obtain ⟨_, _, _, _, _, _, _, _, el_InvalidTool⟩ := tx_look (K := K) (a := (He.ma K (He.ga K "InvalidTool") "__init__")) (nm := "__init__") (q := "InvalidTool.__init__") (st := st_InvalidToolD_initD) (dV := .none) (c.text 7 (d := LawR.dq7) rfl) (of_decide_eq_true (c.fact 106 (f := LawR.fq106) rfl))
  have ec_InvalidTool : PySem.W.codeIn K (fdAt K (He.ma K (He.ga K "InvalidTool") "__init__")).code "InvalidTool.__init__" = true := of_decide_eq_true (c.fact 107 (f := LawR.fq107) rfl)
  have ek_InvalidTool : PySem.W.keepIn K (.ref (He.ma K (He.ga K "InvalidTool") "__init__")) = true := of_decide_eq_true (c.fact 108 (f := LawR.fq108) rfl)
  obtain ⟨_, _, _, _, _, _, _, _, _, _, _, _, _, _, _, xL_InvalidCommand, xr_InvalidCommand⟩ := exc_look (K := K) (C := He.ga K "InvalidCommand") (c.fact 109 (f := LawR.fq109) rfl)
  have esa_InvalidCommand : PySem.W.findIn K (.ref (He.ga K "InvalidCommand")) "__setattr__" = some (some (.builtin "object.__setattr__")) := of_decide_eq_true (c.fact 110 (f := LawR.fq110) rfl)
  have eex_InvalidCommand : PySem.W.subIn K (.ref (He.ga K "InvalidCommand")) (.type "BaseException") = some true := of_decide_eq_true (c.fact 111 (f := LawR.fq111) rfl)
  have ety_InvalidCommand : PySem.W.typeIn K (.ref (He.ga K "InvalidCommand")) = some (.type "type") := of_decide_eq_true (c.fact 112 (f := LawR.fq112) rfl)
  have ekc_InvalidCommand : PySem.W.keepIn K (.ref (He.ga K "InvalidCommand")) = true := of_decide_eq_true (c.fact 113 (f := LawR.fq113) rfl)
  have ea_InvalidCommand : PySem.W.findIn K (.ref (He.ga K "InvalidCommand")) "__init__" = some (some (.ref (He.ma K (He.ga K "InvalidCommand") "__init__"))) := of_decide_eq_true (c.fact 114 (f := LawR.fq114) rfl)
  have et_InvalidCommand : PySem.W.typeIn K (.ref (He.ma K (He.ga K "InvalidCommand") "__init__")) = some (.type "function") := of_decide_eq_true (c.fact 115 (f := LawR.fq115) rfl)
  obtain ⟨_, _, _, _, _, _, _, _, el_InvalidCommand⟩ := tx_look (K := K) (a := (He.ma K (He.ga K "InvalidCommand") "__init__")) (nm := "__init__") (q := "InvalidCommand.__init__") (st := st_InvalidCommandD_initD) (dV := .none) (c.text 8 (d := LawR.dq8) rfl) (of_decide_eq_true (c.fact 116 (f := LawR.fq116) rfl))
  have ec_InvalidCommand : PySem.W.codeIn K (fdAt K (He.ma K (He.ga K "InvalidCommand") "__init__")).code "InvalidCommand.__init__" = true := of_decide_eq_true (c.fact 117 (f := LawR.fq117) rfl)
  have ek_InvalidCommand : PySem.W.keepIn K (.ref (He.ma K (He.ga K "InvalidCommand") "__init__")) = true := of_decide_eq_true (c.fact 118 (f := LawR.fq118) rfl)
  obtain ⟨_, _, _, _, _, _, _, _, _, _, _, _, _, _, _, xL_InvalidGoal, xr_InvalidGoal⟩ := exc_look (K := K) (C := He.ga K "InvalidGoal") (c.fact 119 (f := LawR.fq119) rfl)
  have esa_InvalidGoal : PySem.W.findIn K (.ref (He.ga K "InvalidGoal")) "__setattr__" = some (some (.builtin "object.__setattr__")) := of_decide_eq_true (c.fact 120 (f := LawR.fq120) rfl)
  have eex_InvalidGoal : PySem.W.subIn K (.ref (He.ga K "InvalidGoal")) (.type "BaseException") = some true := of_decide_eq_true (c.fact 121 (f := LawR.fq121) rfl)
  have ety_InvalidGoal : PySem.W.typeIn K (.ref (He.ga K "InvalidGoal")) = some (.type "type") := of_decide_eq_true (c.fact 122 (f := LawR.fq122) rfl)
  have ekc_InvalidGoal : PySem.W.keepIn K (.ref (He.ga K "InvalidGoal")) = true := of_decide_eq_true (c.fact 123 (f := LawR.fq123) rfl)
  have ea_InvalidGoal : PySem.W.findIn K (.ref (He.ga K "InvalidGoal")) "__init__" = some (some (.ref (He.ma K (He.ga K "InvalidGoal") "__init__"))) := of_decide_eq_true (c.fact 124 (f := LawR.fq124) rfl)
  have et_InvalidGoal : PySem.W.typeIn K (.ref (He.ma K (He.ga K "InvalidGoal") "__init__")) = some (.type "function") := of_decide_eq_true (c.fact 125 (f := LawR.fq125) rfl)
  obtain ⟨_, _, _, _, _, _, _, _, el_InvalidGoal⟩ := tx_look (K := K) (a := (He.ma K (He.ga K "InvalidGoal") "__init__")) (nm := "__init__") (q := "InvalidGoal.__init__") (st := st_InvalidGoalD_initD) (dV := .none) (c.text 9 (d := LawR.dq9) rfl) (of_decide_eq_true (c.fact 126 (f := LawR.fq126) rfl))
  have ec_InvalidGoal : PySem.W.codeIn K (fdAt K (He.ma K (He.ga K "InvalidGoal") "__init__")).code "InvalidGoal.__init__" = true := of_decide_eq_true (c.fact 127 (f := LawR.fq127) rfl)
  have ek_InvalidGoal : PySem.W.keepIn K (.ref (He.ma K (He.ga K "InvalidGoal") "__init__")) = true := of_decide_eq_true (c.fact 128 (f := LawR.fq128) rfl)
  have bga : PySem.W.specialIn K (.ref (He.ga K "LayError")) "__getattribute__" = some (some (.builtin "type.__getattribute__")) := of_decide_eq_true (c.fact 129 (f := LawR.fq129) rfl)
  have brd : PySem.W.readsIn K (He.ga K "LayError") (.type "type") = true := of_decide_eq_true (c.fact 130 (f := LawR.fq130) rfl)
  have bty : PySem.W.typeIn K (.ref (He.ga K "LayError")) = some (.type "type") := of_decide_eq_true (c.fact 131 (f := LawR.fq131) rfl)
  have bvV : PySem.W.findCls K (.ref (He.ga K "LayError")) (.type "type") "__init__" = some (.val (.builtin "ValueError.__init__")) := cf_look (c.fact 132 (f := LawR.fq132) rfl)
  have ve_hn : PySem.W.specialIn K (.builtin "object.__class__") "__get__" = some (some (.builtin "getset_descriptor.__get__")) := of_decide_eq_true (c.fact 133 (f := LawR.fq133) rfl)
  have ve_ht : PySem.W.takesIn K (.builtin "object.__class__") = some true := of_decide_eq_true (c.fact 134 (f := LawR.fq134) rfl)
  have ve_hg_InvalidPiece : PySem.W.findIn K (.ref (He.ga K "InvalidPiece")) "__getattribute__" = some (some (.builtin "BaseException.__getattribute__")) := of_decide_eq_true (c.fact 135 (f := LawR.fq135) rfl)
  have ve_hk_InvalidPiece : PySem.W.findIn K (.ref (He.ga K "InvalidPiece")) "__getattr__" = some none := of_decide_eq_true (c.fact 136 (f := LawR.fq136) rfl)
  have ve_hd_InvalidPiece : PySem.W.hasDictIn K (He.ga K "InvalidPiece") = true := of_decide_eq_true (c.fact 137 (f := LawR.fq137) rfl)
  have ve_ha_InvalidPiece : PySem.W.findIn K (.ref (He.ga K "InvalidPiece")) "__class__" = some (some (.builtin "object.__class__")) := of_decide_eq_true (c.fact 138 (f := LawR.fq138) rfl)
  have ve_hm_InvalidPiece : PySem.W.mroIn K (He.ga K "InvalidPiece") (.type "object") = some true := of_decide_eq_true (c.fact 139 (f := LawR.fq139) rfl)
  have ve_hg_InvalidProgram : PySem.W.findIn K (.ref (He.ga K "InvalidProgram")) "__getattribute__" = some (some (.builtin "BaseException.__getattribute__")) := of_decide_eq_true (c.fact 140 (f := LawR.fq140) rfl)
  have ve_hk_InvalidProgram : PySem.W.findIn K (.ref (He.ga K "InvalidProgram")) "__getattr__" = some none := of_decide_eq_true (c.fact 141 (f := LawR.fq141) rfl)
  have ve_hd_InvalidProgram : PySem.W.hasDictIn K (He.ga K "InvalidProgram") = true := of_decide_eq_true (c.fact 142 (f := LawR.fq142) rfl)
  have ve_ha_InvalidProgram : PySem.W.findIn K (.ref (He.ga K "InvalidProgram")) "__class__" = some (some (.builtin "object.__class__")) := of_decide_eq_true (c.fact 143 (f := LawR.fq143) rfl)
  have ve_hm_InvalidProgram : PySem.W.mroIn K (He.ga K "InvalidProgram") (.type "object") = some true := of_decide_eq_true (c.fact 144 (f := LawR.fq144) rfl)
  have ve_hg_InvalidText : PySem.W.findIn K (.ref (He.ga K "InvalidText")) "__getattribute__" = some (some (.builtin "BaseException.__getattribute__")) := of_decide_eq_true (c.fact 145 (f := LawR.fq145) rfl)
  have ve_hk_InvalidText : PySem.W.findIn K (.ref (He.ga K "InvalidText")) "__getattr__" = some none := of_decide_eq_true (c.fact 146 (f := LawR.fq146) rfl)
  have ve_hd_InvalidText : PySem.W.hasDictIn K (He.ga K "InvalidText") = true := of_decide_eq_true (c.fact 147 (f := LawR.fq147) rfl)
  have ve_ha_InvalidText : PySem.W.findIn K (.ref (He.ga K "InvalidText")) "__class__" = some (some (.builtin "object.__class__")) := of_decide_eq_true (c.fact 148 (f := LawR.fq148) rfl)
  have ve_hm_InvalidText : PySem.W.mroIn K (He.ga K "InvalidText") (.type "object") = some true := of_decide_eq_true (c.fact 149 (f := LawR.fq149) rfl)
  have ve_hg_InvalidRow : PySem.W.findIn K (.ref (He.ga K "InvalidRow")) "__getattribute__" = some (some (.builtin "BaseException.__getattribute__")) := of_decide_eq_true (c.fact 150 (f := LawR.fq150) rfl)
  have ve_hk_InvalidRow : PySem.W.findIn K (.ref (He.ga K "InvalidRow")) "__getattr__" = some none := of_decide_eq_true (c.fact 151 (f := LawR.fq151) rfl)
  have ve_hd_InvalidRow : PySem.W.hasDictIn K (He.ga K "InvalidRow") = true := of_decide_eq_true (c.fact 152 (f := LawR.fq152) rfl)
  have ve_ha_InvalidRow : PySem.W.findIn K (.ref (He.ga K "InvalidRow")) "__class__" = some (some (.builtin "object.__class__")) := of_decide_eq_true (c.fact 153 (f := LawR.fq153) rfl)
  have ve_hm_InvalidRow : PySem.W.mroIn K (He.ga K "InvalidRow") (.type "object") = some true := of_decide_eq_true (c.fact 154 (f := LawR.fq154) rfl)
  have ve_hg_InvalidTool : PySem.W.findIn K (.ref (He.ga K "InvalidTool")) "__getattribute__" = some (some (.builtin "BaseException.__getattribute__")) := of_decide_eq_true (c.fact 155 (f := LawR.fq155) rfl)
  have ve_hk_InvalidTool : PySem.W.findIn K (.ref (He.ga K "InvalidTool")) "__getattr__" = some none := of_decide_eq_true (c.fact 156 (f := LawR.fq156) rfl)
  have ve_hd_InvalidTool : PySem.W.hasDictIn K (He.ga K "InvalidTool") = true := of_decide_eq_true (c.fact 157 (f := LawR.fq157) rfl)
  have ve_ha_InvalidTool : PySem.W.findIn K (.ref (He.ga K "InvalidTool")) "__class__" = some (some (.builtin "object.__class__")) := of_decide_eq_true (c.fact 158 (f := LawR.fq158) rfl)
  have ve_hm_InvalidTool : PySem.W.mroIn K (He.ga K "InvalidTool") (.type "object") = some true := of_decide_eq_true (c.fact 159 (f := LawR.fq159) rfl)
  have ve_hg_InvalidGoal : PySem.W.findIn K (.ref (He.ga K "InvalidGoal")) "__getattribute__" = some (some (.builtin "BaseException.__getattribute__")) := of_decide_eq_true (c.fact 160 (f := LawR.fq160) rfl)
  have ve_hk_InvalidGoal : PySem.W.findIn K (.ref (He.ga K "InvalidGoal")) "__getattr__" = some none := of_decide_eq_true (c.fact 161 (f := LawR.fq161) rfl)
  have ve_hd_InvalidGoal : PySem.W.hasDictIn K (He.ga K "InvalidGoal") = true := of_decide_eq_true (c.fact 162 (f := LawR.fq162) rfl)
  have ve_ha_InvalidGoal : PySem.W.findIn K (.ref (He.ga K "InvalidGoal")) "__class__" = some (some (.builtin "object.__class__")) := of_decide_eq_true (c.fact 163 (f := LawR.fq163) rfl)
  have ve_hm_InvalidGoal : PySem.W.mroIn K (He.ga K "InvalidGoal") (.type "object") = some true := of_decide_eq_true (c.fact 164 (f := LawR.fq164) rfl)
  have ve_hg_InvalidCommand : PySem.W.findIn K (.ref (He.ga K "InvalidCommand")) "__getattribute__" = some (some (.builtin "BaseException.__getattribute__")) := of_decide_eq_true (c.fact 165 (f := LawR.fq165) rfl)
  have ve_hk_InvalidCommand : PySem.W.findIn K (.ref (He.ga K "InvalidCommand")) "__getattr__" = some none := of_decide_eq_true (c.fact 166 (f := LawR.fq166) rfl)
  have ve_hd_InvalidCommand : PySem.W.hasDictIn K (He.ga K "InvalidCommand") = true := of_decide_eq_true (c.fact 167 (f := LawR.fq167) rfl)
  have ve_ha_InvalidCommand : PySem.W.findIn K (.ref (He.ga K "InvalidCommand")) "__class__" = some (some (.builtin "object.__class__")) := of_decide_eq_true (c.fact 168 (f := LawR.fq168) rfl)
  have ve_hm_InvalidCommand : PySem.W.mroIn K (He.ga K "InvalidCommand") (.type "object") = some true := of_decide_eq_true (c.fact 169 (f := LawR.fq169) rfl)
  have ve_hg_Refused : PySem.W.findIn K (.ref (He.ga K "Refused")) "__getattribute__" = some (some (.builtin "BaseException.__getattribute__")) := of_decide_eq_true (c.fact 170 (f := LawR.fq170) rfl)
  have ve_hk_Refused : PySem.W.findIn K (.ref (He.ga K "Refused")) "__getattr__" = some none := of_decide_eq_true (c.fact 171 (f := LawR.fq171) rfl)
  have ve_hd_Refused : PySem.W.hasDictIn K (He.ga K "Refused") = true := of_decide_eq_true (c.fact 172 (f := LawR.fq172) rfl)
  have ve_ha_Refused : PySem.W.findIn K (.ref (He.ga K "Refused")) "__class__" = some (some (.builtin "object.__class__")) := of_decide_eq_true (c.fact 173 (f := LawR.fq173) rfl)
  have ve_hm_Refused : PySem.W.mroIn K (He.ga K "Refused") (.type "object") = some true := of_decide_eq_true (c.fact 174 (f := LawR.fq174) rfl)
  have ve_hg_NoPiece : PySem.W.findIn K (.ref (He.ga K "NoPiece")) "__getattribute__" = some (some (.builtin "BaseException.__getattribute__")) := of_decide_eq_true (c.fact 175 (f := LawR.fq175) rfl)
  have ve_hk_NoPiece : PySem.W.findIn K (.ref (He.ga K "NoPiece")) "__getattr__" = some none := of_decide_eq_true (c.fact 176 (f := LawR.fq176) rfl)
  have ve_hd_NoPiece : PySem.W.hasDictIn K (He.ga K "NoPiece") = true := of_decide_eq_true (c.fact 177 (f := LawR.fq177) rfl)
  have ve_ha_NoPiece : PySem.W.findIn K (.ref (He.ga K "NoPiece")) "__class__" = some (some (.builtin "object.__class__")) := of_decide_eq_true (c.fact 178 (f := LawR.fq178) rfl)
  have ve_hm_NoPiece : PySem.W.mroIn K (He.ga K "NoPiece") (.type "object") = some true := of_decide_eq_true (c.fact 179 (f := LawR.fq179) rfl)
  have ve_hg_NoRow : PySem.W.findIn K (.ref (He.ga K "NoRow")) "__getattribute__" = some (some (.builtin "BaseException.__getattribute__")) := of_decide_eq_true (c.fact 180 (f := LawR.fq180) rfl)
  have ve_hk_NoRow : PySem.W.findIn K (.ref (He.ga K "NoRow")) "__getattr__" = some none := of_decide_eq_true (c.fact 181 (f := LawR.fq181) rfl)
  have ve_hd_NoRow : PySem.W.hasDictIn K (He.ga K "NoRow") = true := of_decide_eq_true (c.fact 182 (f := LawR.fq182) rfl)
  have ve_ha_NoRow : PySem.W.findIn K (.ref (He.ga K "NoRow")) "__class__" = some (some (.builtin "object.__class__")) := of_decide_eq_true (c.fact 183 (f := LawR.fq183) rfl)
  have ve_hm_NoRow : PySem.W.mroIn K (He.ga K "NoRow") (.type "object") = some true := of_decide_eq_true (c.fact 184 (f := LawR.fq184) rfl)
  have ki_InvalidText_InvalidPiece : PySem.W.kitOne K (.ref (He.ga K "InvalidPiece")) (.ref (He.ga K "InvalidText")) = some false := of_decide_eq_true (c.fact 185 (f := LawR.fq185) rfl)
  have ki_InvalidText_InvalidProgram : PySem.W.kitOne K (.ref (He.ga K "InvalidProgram")) (.ref (He.ga K "InvalidText")) = some false := of_decide_eq_true (c.fact 186 (f := LawR.fq186) rfl)
  have ki_InvalidText_InvalidText : PySem.W.kitOne K (.ref (He.ga K "InvalidText")) (.ref (He.ga K "InvalidText")) = some true := of_decide_eq_true (c.fact 187 (f := LawR.fq187) rfl)
  have ki_InvalidText_InvalidRow : PySem.W.kitOne K (.ref (He.ga K "InvalidRow")) (.ref (He.ga K "InvalidText")) = some false := of_decide_eq_true (c.fact 188 (f := LawR.fq188) rfl)
  have ki_InvalidText_InvalidTool : PySem.W.kitOne K (.ref (He.ga K "InvalidTool")) (.ref (He.ga K "InvalidText")) = some false := of_decide_eq_true (c.fact 189 (f := LawR.fq189) rfl)
  have ki_InvalidText_InvalidGoal : PySem.W.kitOne K (.ref (He.ga K "InvalidGoal")) (.ref (He.ga K "InvalidText")) = some false := of_decide_eq_true (c.fact 190 (f := LawR.fq190) rfl)
  have ki_InvalidText_InvalidCommand : PySem.W.kitOne K (.ref (He.ga K "InvalidCommand")) (.ref (He.ga K "InvalidText")) = some false := of_decide_eq_true (c.fact 191 (f := LawR.fq191) rfl)
  have ki_InvalidText_Refused : PySem.W.kitOne K (.ref (He.ga K "Refused")) (.ref (He.ga K "InvalidText")) = some false := of_decide_eq_true (c.fact 192 (f := LawR.fq192) rfl)
  have ki_InvalidText_NoPiece : PySem.W.kitOne K (.ref (He.ga K "NoPiece")) (.ref (He.ga K "InvalidText")) = some false := of_decide_eq_true (c.fact 193 (f := LawR.fq193) rfl)
  have ki_InvalidText_NoRow : PySem.W.kitOne K (.ref (He.ga K "NoRow")) (.ref (He.ga K "InvalidText")) = some false := of_decide_eq_true (c.fact 194 (f := LawR.fq194) rfl)
  have ki_InvalidProgram_InvalidPiece : PySem.W.kitOne K (.ref (He.ga K "InvalidPiece")) (.ref (He.ga K "InvalidProgram")) = some false := of_decide_eq_true (c.fact 195 (f := LawR.fq195) rfl)
  have ki_InvalidProgram_InvalidProgram : PySem.W.kitOne K (.ref (He.ga K "InvalidProgram")) (.ref (He.ga K "InvalidProgram")) = some true := of_decide_eq_true (c.fact 196 (f := LawR.fq196) rfl)
  have ki_InvalidProgram_InvalidText : PySem.W.kitOne K (.ref (He.ga K "InvalidText")) (.ref (He.ga K "InvalidProgram")) = some false := of_decide_eq_true (c.fact 197 (f := LawR.fq197) rfl)
  have ki_InvalidProgram_InvalidRow : PySem.W.kitOne K (.ref (He.ga K "InvalidRow")) (.ref (He.ga K "InvalidProgram")) = some false := of_decide_eq_true (c.fact 198 (f := LawR.fq198) rfl)
  have ki_InvalidProgram_InvalidTool : PySem.W.kitOne K (.ref (He.ga K "InvalidTool")) (.ref (He.ga K "InvalidProgram")) = some false := of_decide_eq_true (c.fact 199 (f := LawR.fq199) rfl)
  have ki_InvalidProgram_InvalidGoal : PySem.W.kitOne K (.ref (He.ga K "InvalidGoal")) (.ref (He.ga K "InvalidProgram")) = some false := of_decide_eq_true (c.fact 200 (f := LawR.fq200) rfl)
  have ki_InvalidProgram_InvalidCommand : PySem.W.kitOne K (.ref (He.ga K "InvalidCommand")) (.ref (He.ga K "InvalidProgram")) = some false := of_decide_eq_true (c.fact 201 (f := LawR.fq201) rfl)
  have ki_InvalidProgram_Refused : PySem.W.kitOne K (.ref (He.ga K "Refused")) (.ref (He.ga K "InvalidProgram")) = some false := of_decide_eq_true (c.fact 202 (f := LawR.fq202) rfl)
  have ki_InvalidProgram_NoPiece : PySem.W.kitOne K (.ref (He.ga K "NoPiece")) (.ref (He.ga K "InvalidProgram")) = some false := of_decide_eq_true (c.fact 203 (f := LawR.fq203) rfl)
  have ki_InvalidProgram_NoRow : PySem.W.kitOne K (.ref (He.ga K "NoRow")) (.ref (He.ga K "InvalidProgram")) = some false := of_decide_eq_true (c.fact 204 (f := LawR.fq204) rfl)
  have ki_InvalidPiece_InvalidPiece : PySem.W.kitOne K (.ref (He.ga K "InvalidPiece")) (.ref (He.ga K "InvalidPiece")) = some true := of_decide_eq_true (c.fact 205 (f := LawR.fq205) rfl)
  have ki_InvalidPiece_InvalidProgram : PySem.W.kitOne K (.ref (He.ga K "InvalidProgram")) (.ref (He.ga K "InvalidPiece")) = some false := of_decide_eq_true (c.fact 206 (f := LawR.fq206) rfl)
  have ki_InvalidPiece_InvalidText : PySem.W.kitOne K (.ref (He.ga K "InvalidText")) (.ref (He.ga K "InvalidPiece")) = some false := of_decide_eq_true (c.fact 207 (f := LawR.fq207) rfl)
  have ki_InvalidPiece_InvalidRow : PySem.W.kitOne K (.ref (He.ga K "InvalidRow")) (.ref (He.ga K "InvalidPiece")) = some false := of_decide_eq_true (c.fact 208 (f := LawR.fq208) rfl)
  have ki_InvalidPiece_InvalidTool : PySem.W.kitOne K (.ref (He.ga K "InvalidTool")) (.ref (He.ga K "InvalidPiece")) = some false := of_decide_eq_true (c.fact 209 (f := LawR.fq209) rfl)
  have ki_InvalidPiece_InvalidGoal : PySem.W.kitOne K (.ref (He.ga K "InvalidGoal")) (.ref (He.ga K "InvalidPiece")) = some false := of_decide_eq_true (c.fact 210 (f := LawR.fq210) rfl)
  have ki_InvalidPiece_InvalidCommand : PySem.W.kitOne K (.ref (He.ga K "InvalidCommand")) (.ref (He.ga K "InvalidPiece")) = some false := of_decide_eq_true (c.fact 211 (f := LawR.fq211) rfl)
  have ki_InvalidPiece_Refused : PySem.W.kitOne K (.ref (He.ga K "Refused")) (.ref (He.ga K "InvalidPiece")) = some false := of_decide_eq_true (c.fact 212 (f := LawR.fq212) rfl)
  have ki_InvalidPiece_NoPiece : PySem.W.kitOne K (.ref (He.ga K "NoPiece")) (.ref (He.ga K "InvalidPiece")) = some false := of_decide_eq_true (c.fact 213 (f := LawR.fq213) rfl)
  have ki_InvalidPiece_NoRow : PySem.W.kitOne K (.ref (He.ga K "NoRow")) (.ref (He.ga K "InvalidPiece")) = some false := of_decide_eq_true (c.fact 214 (f := LawR.fq214) rfl)
  have ki_Refused_InvalidPiece : PySem.W.kitOne K (.ref (He.ga K "InvalidPiece")) (.ref (He.ga K "Refused")) = some false := of_decide_eq_true (c.fact 215 (f := LawR.fq215) rfl)
  have ki_Refused_InvalidProgram : PySem.W.kitOne K (.ref (He.ga K "InvalidProgram")) (.ref (He.ga K "Refused")) = some false := of_decide_eq_true (c.fact 216 (f := LawR.fq216) rfl)
  have ki_Refused_InvalidText : PySem.W.kitOne K (.ref (He.ga K "InvalidText")) (.ref (He.ga K "Refused")) = some false := of_decide_eq_true (c.fact 217 (f := LawR.fq217) rfl)
  have ki_Refused_InvalidRow : PySem.W.kitOne K (.ref (He.ga K "InvalidRow")) (.ref (He.ga K "Refused")) = some false := of_decide_eq_true (c.fact 218 (f := LawR.fq218) rfl)
  have ki_Refused_InvalidTool : PySem.W.kitOne K (.ref (He.ga K "InvalidTool")) (.ref (He.ga K "Refused")) = some false := of_decide_eq_true (c.fact 219 (f := LawR.fq219) rfl)
  have ki_Refused_InvalidGoal : PySem.W.kitOne K (.ref (He.ga K "InvalidGoal")) (.ref (He.ga K "Refused")) = some false := of_decide_eq_true (c.fact 220 (f := LawR.fq220) rfl)
  have ki_Refused_InvalidCommand : PySem.W.kitOne K (.ref (He.ga K "InvalidCommand")) (.ref (He.ga K "Refused")) = some false := of_decide_eq_true (c.fact 221 (f := LawR.fq221) rfl)
  have ki_Refused_Refused : PySem.W.kitOne K (.ref (He.ga K "Refused")) (.ref (He.ga K "Refused")) = some true := of_decide_eq_true (c.fact 222 (f := LawR.fq222) rfl)
  have ki_Refused_NoPiece : PySem.W.kitOne K (.ref (He.ga K "NoPiece")) (.ref (He.ga K "Refused")) = some false := of_decide_eq_true (c.fact 223 (f := LawR.fq223) rfl)
  have ki_Refused_NoRow : PySem.W.kitOne K (.ref (He.ga K "NoRow")) (.ref (He.ga K "Refused")) = some false := of_decide_eq_true (c.fact 224 (f := LawR.fq224) rfl)
  have ki_InvalidTool_InvalidPiece : PySem.W.kitOne K (.ref (He.ga K "InvalidPiece")) (.ref (He.ga K "InvalidTool")) = some false := of_decide_eq_true (c.fact 225 (f := LawR.fq225) rfl)
  have ki_InvalidTool_InvalidProgram : PySem.W.kitOne K (.ref (He.ga K "InvalidProgram")) (.ref (He.ga K "InvalidTool")) = some false := of_decide_eq_true (c.fact 226 (f := LawR.fq226) rfl)
  have ki_InvalidTool_InvalidText : PySem.W.kitOne K (.ref (He.ga K "InvalidText")) (.ref (He.ga K "InvalidTool")) = some false := of_decide_eq_true (c.fact 227 (f := LawR.fq227) rfl)
  have ki_InvalidTool_InvalidRow : PySem.W.kitOne K (.ref (He.ga K "InvalidRow")) (.ref (He.ga K "InvalidTool")) = some false := of_decide_eq_true (c.fact 228 (f := LawR.fq228) rfl)
  have ki_InvalidTool_InvalidTool : PySem.W.kitOne K (.ref (He.ga K "InvalidTool")) (.ref (He.ga K "InvalidTool")) = some true := of_decide_eq_true (c.fact 229 (f := LawR.fq229) rfl)
  have ki_InvalidTool_InvalidGoal : PySem.W.kitOne K (.ref (He.ga K "InvalidGoal")) (.ref (He.ga K "InvalidTool")) = some false := of_decide_eq_true (c.fact 230 (f := LawR.fq230) rfl)
  have ki_InvalidTool_InvalidCommand : PySem.W.kitOne K (.ref (He.ga K "InvalidCommand")) (.ref (He.ga K "InvalidTool")) = some false := of_decide_eq_true (c.fact 231 (f := LawR.fq231) rfl)
  have ki_InvalidTool_Refused : PySem.W.kitOne K (.ref (He.ga K "Refused")) (.ref (He.ga K "InvalidTool")) = some false := of_decide_eq_true (c.fact 232 (f := LawR.fq232) rfl)
  have ki_InvalidTool_NoPiece : PySem.W.kitOne K (.ref (He.ga K "NoPiece")) (.ref (He.ga K "InvalidTool")) = some false := of_decide_eq_true (c.fact 233 (f := LawR.fq233) rfl)
  have ki_InvalidTool_NoRow : PySem.W.kitOne K (.ref (He.ga K "NoRow")) (.ref (He.ga K "InvalidTool")) = some false := of_decide_eq_true (c.fact 234 (f := LawR.fq234) rfl)
  have ki_InvalidRow_InvalidPiece : PySem.W.kitOne K (.ref (He.ga K "InvalidPiece")) (.ref (He.ga K "InvalidRow")) = some false := of_decide_eq_true (c.fact 235 (f := LawR.fq235) rfl)
  have ki_InvalidRow_InvalidProgram : PySem.W.kitOne K (.ref (He.ga K "InvalidProgram")) (.ref (He.ga K "InvalidRow")) = some false := of_decide_eq_true (c.fact 236 (f := LawR.fq236) rfl)
  have ki_InvalidRow_InvalidText : PySem.W.kitOne K (.ref (He.ga K "InvalidText")) (.ref (He.ga K "InvalidRow")) = some false := of_decide_eq_true (c.fact 237 (f := LawR.fq237) rfl)
  have ki_InvalidRow_InvalidRow : PySem.W.kitOne K (.ref (He.ga K "InvalidRow")) (.ref (He.ga K "InvalidRow")) = some true := of_decide_eq_true (c.fact 238 (f := LawR.fq238) rfl)
  have ki_InvalidRow_InvalidTool : PySem.W.kitOne K (.ref (He.ga K "InvalidTool")) (.ref (He.ga K "InvalidRow")) = some false := of_decide_eq_true (c.fact 239 (f := LawR.fq239) rfl)
  have ki_InvalidRow_InvalidGoal : PySem.W.kitOne K (.ref (He.ga K "InvalidGoal")) (.ref (He.ga K "InvalidRow")) = some false := of_decide_eq_true (c.fact 240 (f := LawR.fq240) rfl)
  have ki_InvalidRow_InvalidCommand : PySem.W.kitOne K (.ref (He.ga K "InvalidCommand")) (.ref (He.ga K "InvalidRow")) = some false := of_decide_eq_true (c.fact 241 (f := LawR.fq241) rfl)
  have ki_InvalidRow_Refused : PySem.W.kitOne K (.ref (He.ga K "Refused")) (.ref (He.ga K "InvalidRow")) = some false := of_decide_eq_true (c.fact 242 (f := LawR.fq242) rfl)
  have ki_InvalidRow_NoPiece : PySem.W.kitOne K (.ref (He.ga K "NoPiece")) (.ref (He.ga K "InvalidRow")) = some false := of_decide_eq_true (c.fact 243 (f := LawR.fq243) rfl)
  have ki_InvalidRow_NoRow : PySem.W.kitOne K (.ref (He.ga K "NoRow")) (.ref (He.ga K "InvalidRow")) = some false := of_decide_eq_true (c.fact 244 (f := LawR.fq244) rfl)
  have ki_InvalidGoal_InvalidPiece : PySem.W.kitOne K (.ref (He.ga K "InvalidPiece")) (.ref (He.ga K "InvalidGoal")) = some false := of_decide_eq_true (c.fact 245 (f := LawR.fq245) rfl)
  have ki_InvalidGoal_InvalidProgram : PySem.W.kitOne K (.ref (He.ga K "InvalidProgram")) (.ref (He.ga K "InvalidGoal")) = some false := of_decide_eq_true (c.fact 246 (f := LawR.fq246) rfl)
  have ki_InvalidGoal_InvalidText : PySem.W.kitOne K (.ref (He.ga K "InvalidText")) (.ref (He.ga K "InvalidGoal")) = some false := of_decide_eq_true (c.fact 247 (f := LawR.fq247) rfl)
  have ki_InvalidGoal_InvalidRow : PySem.W.kitOne K (.ref (He.ga K "InvalidRow")) (.ref (He.ga K "InvalidGoal")) = some false := of_decide_eq_true (c.fact 248 (f := LawR.fq248) rfl)
  have ki_InvalidGoal_InvalidTool : PySem.W.kitOne K (.ref (He.ga K "InvalidTool")) (.ref (He.ga K "InvalidGoal")) = some false := of_decide_eq_true (c.fact 249 (f := LawR.fq249) rfl)
  have ki_InvalidGoal_InvalidGoal : PySem.W.kitOne K (.ref (He.ga K "InvalidGoal")) (.ref (He.ga K "InvalidGoal")) = some true := of_decide_eq_true (c.fact 250 (f := LawR.fq250) rfl)
  have ki_InvalidGoal_InvalidCommand : PySem.W.kitOne K (.ref (He.ga K "InvalidCommand")) (.ref (He.ga K "InvalidGoal")) = some false := of_decide_eq_true (c.fact 251 (f := LawR.fq251) rfl)
  have ki_InvalidGoal_Refused : PySem.W.kitOne K (.ref (He.ga K "Refused")) (.ref (He.ga K "InvalidGoal")) = some false := of_decide_eq_true (c.fact 252 (f := LawR.fq252) rfl)
  have ki_InvalidGoal_NoPiece : PySem.W.kitOne K (.ref (He.ga K "NoPiece")) (.ref (He.ga K "InvalidGoal")) = some false := of_decide_eq_true (c.fact 253 (f := LawR.fq253) rfl)
  have ki_InvalidGoal_NoRow : PySem.W.kitOne K (.ref (He.ga K "NoRow")) (.ref (He.ga K "InvalidGoal")) = some false := of_decide_eq_true (c.fact 254 (f := LawR.fq254) rfl)
  have ki_NoRow_InvalidPiece : PySem.W.kitOne K (.ref (He.ga K "InvalidPiece")) (.ref (He.ga K "NoRow")) = some false := of_decide_eq_true (c.fact 255 (f := LawR.fq255) rfl)
  have ki_NoRow_InvalidProgram : PySem.W.kitOne K (.ref (He.ga K "InvalidProgram")) (.ref (He.ga K "NoRow")) = some false := of_decide_eq_true (c.fact 256 (f := LawR.fq256) rfl)
  have ki_NoRow_InvalidText : PySem.W.kitOne K (.ref (He.ga K "InvalidText")) (.ref (He.ga K "NoRow")) = some false := of_decide_eq_true (c.fact 257 (f := LawR.fq257) rfl)
  have ki_NoRow_InvalidRow : PySem.W.kitOne K (.ref (He.ga K "InvalidRow")) (.ref (He.ga K "NoRow")) = some false := of_decide_eq_true (c.fact 258 (f := LawR.fq258) rfl)
  have ki_NoRow_InvalidTool : PySem.W.kitOne K (.ref (He.ga K "InvalidTool")) (.ref (He.ga K "NoRow")) = some false := of_decide_eq_true (c.fact 259 (f := LawR.fq259) rfl)
  have ki_NoRow_InvalidGoal : PySem.W.kitOne K (.ref (He.ga K "InvalidGoal")) (.ref (He.ga K "NoRow")) = some false := of_decide_eq_true (c.fact 260 (f := LawR.fq260) rfl)
  have ki_NoRow_InvalidCommand : PySem.W.kitOne K (.ref (He.ga K "InvalidCommand")) (.ref (He.ga K "NoRow")) = some false := of_decide_eq_true (c.fact 261 (f := LawR.fq261) rfl)
  have ki_NoRow_Refused : PySem.W.kitOne K (.ref (He.ga K "Refused")) (.ref (He.ga K "NoRow")) = some false := of_decide_eq_true (c.fact 262 (f := LawR.fq262) rfl)
  have ki_NoRow_NoPiece : PySem.W.kitOne K (.ref (He.ga K "NoPiece")) (.ref (He.ga K "NoRow")) = some false := of_decide_eq_true (c.fact 263 (f := LawR.fq263) rfl)
  have ki_NoRow_NoRow : PySem.W.kitOne K (.ref (He.ga K "NoRow")) (.ref (He.ga K "NoRow")) = some true := of_decide_eq_true (c.fact 264 (f := LawR.fq264) rfl)
  have ki_NoPiece_InvalidPiece : PySem.W.kitOne K (.ref (He.ga K "InvalidPiece")) (.ref (He.ga K "NoPiece")) = some false := of_decide_eq_true (c.fact 265 (f := LawR.fq265) rfl)
  have ki_NoPiece_InvalidProgram : PySem.W.kitOne K (.ref (He.ga K "InvalidProgram")) (.ref (He.ga K "NoPiece")) = some false := of_decide_eq_true (c.fact 266 (f := LawR.fq266) rfl)
  have ki_NoPiece_InvalidText : PySem.W.kitOne K (.ref (He.ga K "InvalidText")) (.ref (He.ga K "NoPiece")) = some false := of_decide_eq_true (c.fact 267 (f := LawR.fq267) rfl)
  have ki_NoPiece_InvalidRow : PySem.W.kitOne K (.ref (He.ga K "InvalidRow")) (.ref (He.ga K "NoPiece")) = some false := of_decide_eq_true (c.fact 268 (f := LawR.fq268) rfl)
  have ki_NoPiece_InvalidTool : PySem.W.kitOne K (.ref (He.ga K "InvalidTool")) (.ref (He.ga K "NoPiece")) = some false := of_decide_eq_true (c.fact 269 (f := LawR.fq269) rfl)
  have ki_NoPiece_InvalidGoal : PySem.W.kitOne K (.ref (He.ga K "InvalidGoal")) (.ref (He.ga K "NoPiece")) = some false := of_decide_eq_true (c.fact 270 (f := LawR.fq270) rfl)
  have ki_NoPiece_InvalidCommand : PySem.W.kitOne K (.ref (He.ga K "InvalidCommand")) (.ref (He.ga K "NoPiece")) = some false := of_decide_eq_true (c.fact 271 (f := LawR.fq271) rfl)
  have ki_NoPiece_Refused : PySem.W.kitOne K (.ref (He.ga K "Refused")) (.ref (He.ga K "NoPiece")) = some false := of_decide_eq_true (c.fact 272 (f := LawR.fq272) rfl)
  have ki_NoPiece_NoPiece : PySem.W.kitOne K (.ref (He.ga K "NoPiece")) (.ref (He.ga K "NoPiece")) = some true := of_decide_eq_true (c.fact 273 (f := LawR.fq273) rfl)
  have ki_NoPiece_NoRow : PySem.W.kitOne K (.ref (He.ga K "NoRow")) (.ref (He.ga K "NoPiece")) = some false := of_decide_eq_true (c.fact 274 (f := LawR.fq274) rfl)
  have ki_InvalidCommand_InvalidPiece : PySem.W.kitOne K (.ref (He.ga K "InvalidPiece")) (.ref (He.ga K "InvalidCommand")) = some false := of_decide_eq_true (c.fact 275 (f := LawR.fq275) rfl)
  have ki_InvalidCommand_InvalidProgram : PySem.W.kitOne K (.ref (He.ga K "InvalidProgram")) (.ref (He.ga K "InvalidCommand")) = some false := of_decide_eq_true (c.fact 276 (f := LawR.fq276) rfl)
  have ki_InvalidCommand_InvalidText : PySem.W.kitOne K (.ref (He.ga K "InvalidText")) (.ref (He.ga K "InvalidCommand")) = some false := of_decide_eq_true (c.fact 277 (f := LawR.fq277) rfl)
  have ki_InvalidCommand_InvalidRow : PySem.W.kitOne K (.ref (He.ga K "InvalidRow")) (.ref (He.ga K "InvalidCommand")) = some false := of_decide_eq_true (c.fact 278 (f := LawR.fq278) rfl)
  have ki_InvalidCommand_InvalidTool : PySem.W.kitOne K (.ref (He.ga K "InvalidTool")) (.ref (He.ga K "InvalidCommand")) = some false := of_decide_eq_true (c.fact 279 (f := LawR.fq279) rfl)
  have ki_InvalidCommand_InvalidGoal : PySem.W.kitOne K (.ref (He.ga K "InvalidGoal")) (.ref (He.ga K "InvalidCommand")) = some false := of_decide_eq_true (c.fact 280 (f := LawR.fq280) rfl)
  have ki_InvalidCommand_InvalidCommand : PySem.W.kitOne K (.ref (He.ga K "InvalidCommand")) (.ref (He.ga K "InvalidCommand")) = some true := of_decide_eq_true (c.fact 281 (f := LawR.fq281) rfl)
  have ki_InvalidCommand_Refused : PySem.W.kitOne K (.ref (He.ga K "Refused")) (.ref (He.ga K "InvalidCommand")) = some false := of_decide_eq_true (c.fact 282 (f := LawR.fq282) rfl)
  have ki_InvalidCommand_NoPiece : PySem.W.kitOne K (.ref (He.ga K "NoPiece")) (.ref (He.ga K "InvalidCommand")) = some false := of_decide_eq_true (c.fact 283 (f := LawR.fq283) rfl)
  have ki_InvalidCommand_NoRow : PySem.W.kitOne K (.ref (He.ga K "NoRow")) (.ref (He.ga K "InvalidCommand")) = some false := of_decide_eq_true (c.fact 284 (f := LawR.fq284) rfl)
  have ki_LayError_InvalidPiece : PySem.W.kitOne K (.ref (He.ga K "InvalidPiece")) (.ref (He.ga K "LayError")) = some true := of_decide_eq_true (c.fact 285 (f := LawR.fq285) rfl)
  have ki_LayError_InvalidProgram : PySem.W.kitOne K (.ref (He.ga K "InvalidProgram")) (.ref (He.ga K "LayError")) = some true := of_decide_eq_true (c.fact 286 (f := LawR.fq286) rfl)
  have ki_LayError_InvalidText : PySem.W.kitOne K (.ref (He.ga K "InvalidText")) (.ref (He.ga K "LayError")) = some true := of_decide_eq_true (c.fact 287 (f := LawR.fq287) rfl)
  have ki_LayError_InvalidRow : PySem.W.kitOne K (.ref (He.ga K "InvalidRow")) (.ref (He.ga K "LayError")) = some true := of_decide_eq_true (c.fact 288 (f := LawR.fq288) rfl)
  have ki_LayError_InvalidTool : PySem.W.kitOne K (.ref (He.ga K "InvalidTool")) (.ref (He.ga K "LayError")) = some true := of_decide_eq_true (c.fact 289 (f := LawR.fq289) rfl)
  have ki_LayError_InvalidGoal : PySem.W.kitOne K (.ref (He.ga K "InvalidGoal")) (.ref (He.ga K "LayError")) = some true := of_decide_eq_true (c.fact 290 (f := LawR.fq290) rfl)
  have ki_LayError_InvalidCommand : PySem.W.kitOne K (.ref (He.ga K "InvalidCommand")) (.ref (He.ga K "LayError")) = some true := of_decide_eq_true (c.fact 291 (f := LawR.fq291) rfl)
  have ki_LayError_Refused : PySem.W.kitOne K (.ref (He.ga K "Refused")) (.ref (He.ga K "LayError")) = some true := of_decide_eq_true (c.fact 292 (f := LawR.fq292) rfl)
  have ki_LayError_NoPiece : PySem.W.kitOne K (.ref (He.ga K "NoPiece")) (.ref (He.ga K "LayError")) = some true := of_decide_eq_true (c.fact 293 (f := LawR.fq293) rfl)
  have ki_LayError_NoRow : PySem.W.kitOne K (.ref (He.ga K "NoRow")) (.ref (He.ga K "LayError")) = some true := of_decide_eq_true (c.fact 294 (f := LawR.fq294) rfl)
  have ki_ValueError_InvalidPiece : PySem.W.kitOne K (.ref (He.ga K "InvalidPiece")) (.type "ValueError") = some true := of_decide_eq_true (c.fact 295 (f := LawR.fq295) rfl)
  have ki_ValueError_InvalidProgram : PySem.W.kitOne K (.ref (He.ga K "InvalidProgram")) (.type "ValueError") = some true := of_decide_eq_true (c.fact 296 (f := LawR.fq296) rfl)
  have ki_ValueError_InvalidText : PySem.W.kitOne K (.ref (He.ga K "InvalidText")) (.type "ValueError") = some true := of_decide_eq_true (c.fact 297 (f := LawR.fq297) rfl)
  have ki_ValueError_InvalidRow : PySem.W.kitOne K (.ref (He.ga K "InvalidRow")) (.type "ValueError") = some true := of_decide_eq_true (c.fact 298 (f := LawR.fq298) rfl)
  have ki_ValueError_InvalidTool : PySem.W.kitOne K (.ref (He.ga K "InvalidTool")) (.type "ValueError") = some true := of_decide_eq_true (c.fact 299 (f := LawR.fq299) rfl)
  have ki_ValueError_InvalidGoal : PySem.W.kitOne K (.ref (He.ga K "InvalidGoal")) (.type "ValueError") = some true := of_decide_eq_true (c.fact 300 (f := LawR.fq300) rfl)
  have ki_ValueError_InvalidCommand : PySem.W.kitOne K (.ref (He.ga K "InvalidCommand")) (.type "ValueError") = some true := of_decide_eq_true (c.fact 301 (f := LawR.fq301) rfl)
  have ki_ValueError_Refused : PySem.W.kitOne K (.ref (He.ga K "Refused")) (.type "ValueError") = some true := of_decide_eq_true (c.fact 302 (f := LawR.fq302) rfl)
  have ki_ValueError_NoPiece : PySem.W.kitOne K (.ref (He.ga K "NoPiece")) (.type "ValueError") = some true := of_decide_eq_true (c.fact 303 (f := LawR.fq303) rfl)
  have ki_ValueError_NoRow : PySem.W.kitOne K (.ref (He.ga K "NoRow")) (.type "ValueError") = some true := of_decide_eq_true (c.fact 304 (f := LawR.fq304) rfl)
  have a_law_box : PySem.W.nsIn K mainGlobals "_law_box" = some (some (.ref (He.ga K "_law_box"))) := of_decide_eq_true (c.fact 305 (f := LawR.fq305) rfl)
  obtain ⟨_, _, _, _, _, _, _, _, l_law_box⟩ := tx_look (K := K) (a := (He.ga K "_law_box")) (nm := "_law_box") (q := "_law_box") (st := st_law_box) (dV := .none) (c.text 10 (d := LawR.dq10) rfl) (of_decide_eq_true (c.fact 306 (f := LawR.fq306) rfl))
  have c_law_box : PySem.W.codeIn K (fdAt K (He.ga K "_law_box")).code "_law_box" = true := of_decide_eq_true (c.fact 307 (f := LawR.fq307) rfl)
  have k_law_box : PySem.W.keepIn K (.ref (He.ga K "_law_box")) = true := of_decide_eq_true (c.fact 308 (f := LawR.fq308) rfl)
  have a_law_take : PySem.W.nsIn K mainGlobals "_law_take" = some (some (.ref (He.ga K "_law_take"))) := of_decide_eq_true (c.fact 309 (f := LawR.fq309) rfl)
  obtain ⟨_, _, _, _, _, _, _, _, l_law_take⟩ := tx_look (K := K) (a := (He.ga K "_law_take")) (nm := "_law_take") (q := "_law_take") (st := st_law_take) (dV := .none) (c.text 11 (d := LawR.dq11) rfl) (of_decide_eq_true (c.fact 310 (f := LawR.fq310) rfl))
  have c_law_take : PySem.W.codeIn K (fdAt K (He.ga K "_law_take")).code "_law_take" = true := of_decide_eq_true (c.fact 311 (f := LawR.fq311) rfl)
  have k_law_take : PySem.W.keepIn K (.ref (He.ga K "_law_take")) = true := of_decide_eq_true (c.fact 312 (f := LawR.fq312) rfl)
  have a_law_pick : PySem.W.nsIn K mainGlobals "_law_pick" = some (some (.ref (He.ga K "_law_pick"))) := of_decide_eq_true (c.fact 313 (f := LawR.fq313) rfl)
  obtain ⟨_, _, _, _, _, _, _, _, l_law_pick⟩ := tx_look (K := K) (a := (He.ga K "_law_pick")) (nm := "_law_pick") (q := "_law_pick") (st := st_law_pick) (dV := .none) (c.text 12 (d := LawR.dq12) rfl) (of_decide_eq_true (c.fact 314 (f := LawR.fq314) rfl))
  have c_law_pick : PySem.W.codeIn K (fdAt K (He.ga K "_law_pick")).code "_law_pick" = true := of_decide_eq_true (c.fact 315 (f := LawR.fq315) rfl)
  have k_law_pick : PySem.W.keepIn K (.ref (He.ga K "_law_pick")) = true := of_decide_eq_true (c.fact 316 (f := LawR.fq316) rfl)
  have a_law_value : PySem.W.nsIn K mainGlobals "_law_value" = some (some (.ref (He.ga K "_law_value"))) := of_decide_eq_true (c.fact 317 (f := LawR.fq317) rfl)
  obtain ⟨_, _, _, _, _, _, _, _, l_law_value⟩ := tx_look (K := K) (a := (He.ga K "_law_value")) (nm := "_law_value") (q := "_law_value") (st := st_law_value) (dV := .none) (c.text 13 (d := LawR.dq13) rfl) (of_decide_eq_true (c.fact 318 (f := LawR.fq318) rfl))
  have c_law_value : PySem.W.codeIn K (fdAt K (He.ga K "_law_value")).code "_law_value" = true := of_decide_eq_true (c.fact 319 (f := LawR.fq319) rfl)
  have k_law_value : PySem.W.keepIn K (.ref (He.ga K "_law_value")) = true := of_decide_eq_true (c.fact 320 (f := LawR.fq320) rfl)
  have a_law_made : PySem.W.nsIn K mainGlobals "_law_made" = some (some (.ref (He.ga K "_law_made"))) := of_decide_eq_true (c.fact 321 (f := LawR.fq321) rfl)
  obtain ⟨_, _, _, _, _, _, _, _, l_law_made⟩ := tx_look (K := K) (a := (He.ga K "_law_made")) (nm := "_law_made") (q := "_law_made") (st := st_law_made) (dV := .none) (c.text 14 (d := LawR.dq14) rfl) (of_decide_eq_true (c.fact 322 (f := LawR.fq322) rfl))
  have c_law_made : PySem.W.codeIn K (fdAt K (He.ga K "_law_made")).code "_law_made" = true := of_decide_eq_true (c.fact 323 (f := LawR.fq323) rfl)
  have k_law_made : PySem.W.keepIn K (.ref (He.ga K "_law_made")) = true := of_decide_eq_true (c.fact 324 (f := LawR.fq324) rfl)
  have a_law_sorts : PySem.W.nsIn K mainGlobals "_law_sorts" = some (some (.ref (He.ga K "_law_sorts"))) := of_decide_eq_true (c.fact 325 (f := LawR.fq325) rfl)
  obtain ⟨_, _, _, _, _, _, _, _, l_law_sorts⟩ := tx_look (K := K) (a := (He.ga K "_law_sorts")) (nm := "_law_sorts") (q := "_law_sorts") (st := st_law_sorts) (dV := .none) (c.text 15 (d := LawR.dq15) rfl) (of_decide_eq_true (c.fact 326 (f := LawR.fq326) rfl))
  have c_law_sorts : PySem.W.codeIn K (fdAt K (He.ga K "_law_sorts")).code "_law_sorts" = true := of_decide_eq_true (c.fact 327 (f := LawR.fq327) rfl)
  have k_law_sorts : PySem.W.keepIn K (.ref (He.ga K "_law_sorts")) = true := of_decide_eq_true (c.fact 328 (f := LawR.fq328) rfl)
  have a_law_held : PySem.W.nsIn K mainGlobals "_law_held" = some (some (.ref (He.ga K "_law_held"))) := of_decide_eq_true (c.fact 329 (f := LawR.fq329) rfl)
  obtain ⟨_, _, _, _, _, _, _, _, l_law_held⟩ := tx_look (K := K) (a := (He.ga K "_law_held")) (nm := "_law_held") (q := "_law_held") (st := st_law_held) (dV := .none) (c.text 16 (d := LawR.dq16) rfl) (of_decide_eq_true (c.fact 330 (f := LawR.fq330) rfl))
  have c_law_held : PySem.W.codeIn K (fdAt K (He.ga K "_law_held")).code "_law_held" = true := of_decide_eq_true (c.fact 331 (f := LawR.fq331) rfl)
  have k_law_held : PySem.W.keepIn K (.ref (He.ga K "_law_held")) = true := of_decide_eq_true (c.fact 332 (f := LawR.fq332) rfl)
  have a_law_named : PySem.W.nsIn K mainGlobals "_law_named" = some (some (.ref (He.ga K "_law_named"))) := of_decide_eq_true (c.fact 333 (f := LawR.fq333) rfl)
  obtain ⟨_, _, _, _, _, _, _, _, l_law_named⟩ := tx_look (K := K) (a := (He.ga K "_law_named")) (nm := "_law_named") (q := "_law_named") (st := st_law_named) (dV := .none) (c.text 17 (d := LawR.dq17) rfl) (of_decide_eq_true (c.fact 334 (f := LawR.fq334) rfl))
  have c_law_named : PySem.W.codeIn K (fdAt K (He.ga K "_law_named")).code "_law_named" = true := of_decide_eq_true (c.fact 335 (f := LawR.fq335) rfl)
  have k_law_named : PySem.W.keepIn K (.ref (He.ga K "_law_named")) = true := of_decide_eq_true (c.fact 336 (f := LawR.fq336) rfl)
  have a_law : PySem.W.nsIn K mainGlobals "law" = some (some (.ref (He.ga K "law"))) := of_decide_eq_true (c.fact 337 (f := LawR.fq337) rfl)
  obtain ⟨_, _, _, _, _, _, _, _, l_law⟩ := tx_look (K := K) (a := (He.ga K "law")) (nm := "law") (q := "law") (st := st_law) (dV := .none) (c.text 18 (d := LawR.dq18) rfl) (of_decide_eq_true (c.fact 338 (f := LawR.fq338) rfl))
  have c_law : PySem.W.codeIn K (fdAt K (He.ga K "law")).code "law" = true := of_decide_eq_true (c.fact 339 (f := LawR.fq339) rfl)
  have k_law : PySem.W.keepIn K (.ref (He.ga K "law")) = true := of_decide_eq_true (c.fact 340 (f := LawR.fq340) rfl)
  exact all_mk X G hfa aC_LayError aC_InvalidPiece aC_InvalidProgram aC_InvalidText aC_InvalidRow aC_InvalidTool aC_InvalidGoal aC_InvalidCommand aC_Refused aC_NoPiece aC_NoRow z_ValueError z_abs z_enumerate z_int z_isinstance z_len z_max z_min z_range z_repr xL_InvalidRow xr_InvalidRow esa_InvalidRow eex_InvalidRow ety_InvalidRow ekc_InvalidRow eno_InvalidRow ea_InvalidRow et_InvalidRow el_InvalidRow ec_InvalidRow ek_InvalidRow xL_InvalidText xr_InvalidText esa_InvalidText eex_InvalidText ety_InvalidText ekc_InvalidText eno_InvalidText ea_InvalidText et_InvalidText el_InvalidText ec_InvalidText ek_InvalidText xL_InvalidProgram xr_InvalidProgram esa_InvalidProgram eex_InvalidProgram ety_InvalidProgram ekc_InvalidProgram eno_InvalidProgram ea_InvalidProgram et_InvalidProgram el_InvalidProgram ec_InvalidProgram ek_InvalidProgram xL_InvalidPiece xr_InvalidPiece esa_InvalidPiece eex_InvalidPiece ety_InvalidPiece ekc_InvalidPiece eno_InvalidPiece ea_InvalidPiece et_InvalidPiece el_InvalidPiece ec_InvalidPiece ek_InvalidPiece xL_NoRow xr_NoRow esa_NoRow eex_NoRow ety_NoRow ekc_NoRow eno_NoRow ea_NoRow et_NoRow el_NoRow ec_NoRow ek_NoRow xL_NoPiece xr_NoPiece esa_NoPiece eex_NoPiece ety_NoPiece ekc_NoPiece eno_NoPiece ea_NoPiece et_NoPiece el_NoPiece ec_NoPiece ek_NoPiece xL_Refused xr_Refused esa_Refused eex_Refused ety_Refused ekc_Refused eno_Refused ea_Refused et_Refused el_Refused ec_Refused ek_Refused xL_InvalidTool xr_InvalidTool esa_InvalidTool eex_InvalidTool ety_InvalidTool ekc_InvalidTool eno_InvalidTool ea_InvalidTool et_InvalidTool el_InvalidTool ec_InvalidTool ek_InvalidTool xL_InvalidCommand xr_InvalidCommand esa_InvalidCommand eex_InvalidCommand ety_InvalidCommand ekc_InvalidCommand ea_InvalidCommand et_InvalidCommand el_InvalidCommand ec_InvalidCommand ek_InvalidCommand xL_InvalidGoal xr_InvalidGoal esa_InvalidGoal eex_InvalidGoal ety_InvalidGoal ekc_InvalidGoal ea_InvalidGoal et_InvalidGoal el_InvalidGoal ec_InvalidGoal ek_InvalidGoal bga brd bty bvV ve_hn ve_ht ve_hg_InvalidPiece ve_hk_InvalidPiece ve_hd_InvalidPiece ve_ha_InvalidPiece ve_hm_InvalidPiece ve_hg_InvalidProgram ve_hk_InvalidProgram ve_hd_InvalidProgram ve_ha_InvalidProgram ve_hm_InvalidProgram ve_hg_InvalidText ve_hk_InvalidText ve_hd_InvalidText ve_ha_InvalidText ve_hm_InvalidText ve_hg_InvalidRow ve_hk_InvalidRow ve_hd_InvalidRow ve_ha_InvalidRow ve_hm_InvalidRow ve_hg_InvalidTool ve_hk_InvalidTool ve_hd_InvalidTool ve_ha_InvalidTool ve_hm_InvalidTool ve_hg_InvalidGoal ve_hk_InvalidGoal ve_hd_InvalidGoal ve_ha_InvalidGoal ve_hm_InvalidGoal ve_hg_InvalidCommand ve_hk_InvalidCommand ve_hd_InvalidCommand ve_ha_InvalidCommand ve_hm_InvalidCommand ve_hg_Refused ve_hk_Refused ve_hd_Refused ve_ha_Refused ve_hm_Refused ve_hg_NoPiece ve_hk_NoPiece ve_hd_NoPiece ve_ha_NoPiece ve_hm_NoPiece ve_hg_NoRow ve_hk_NoRow ve_hd_NoRow ve_ha_NoRow ve_hm_NoRow ki_InvalidText_InvalidPiece ki_InvalidText_InvalidProgram ki_InvalidText_InvalidText ki_InvalidText_InvalidRow ki_InvalidText_InvalidTool ki_InvalidText_InvalidGoal ki_InvalidText_InvalidCommand ki_InvalidText_Refused ki_InvalidText_NoPiece ki_InvalidText_NoRow ki_InvalidProgram_InvalidPiece ki_InvalidProgram_InvalidProgram ki_InvalidProgram_InvalidText ki_InvalidProgram_InvalidRow ki_InvalidProgram_InvalidTool ki_InvalidProgram_InvalidGoal ki_InvalidProgram_InvalidCommand ki_InvalidProgram_Refused ki_InvalidProgram_NoPiece ki_InvalidProgram_NoRow ki_InvalidPiece_InvalidPiece ki_InvalidPiece_InvalidProgram ki_InvalidPiece_InvalidText ki_InvalidPiece_InvalidRow ki_InvalidPiece_InvalidTool ki_InvalidPiece_InvalidGoal ki_InvalidPiece_InvalidCommand ki_InvalidPiece_Refused ki_InvalidPiece_NoPiece ki_InvalidPiece_NoRow ki_Refused_InvalidPiece ki_Refused_InvalidProgram ki_Refused_InvalidText ki_Refused_InvalidRow ki_Refused_InvalidTool ki_Refused_InvalidGoal ki_Refused_InvalidCommand ki_Refused_Refused ki_Refused_NoPiece ki_Refused_NoRow ki_InvalidTool_InvalidPiece ki_InvalidTool_InvalidProgram ki_InvalidTool_InvalidText ki_InvalidTool_InvalidRow ki_InvalidTool_InvalidTool ki_InvalidTool_InvalidGoal ki_InvalidTool_InvalidCommand ki_InvalidTool_Refused ki_InvalidTool_NoPiece ki_InvalidTool_NoRow ki_InvalidRow_InvalidPiece ki_InvalidRow_InvalidProgram ki_InvalidRow_InvalidText ki_InvalidRow_InvalidRow ki_InvalidRow_InvalidTool ki_InvalidRow_InvalidGoal ki_InvalidRow_InvalidCommand ki_InvalidRow_Refused ki_InvalidRow_NoPiece ki_InvalidRow_NoRow ki_InvalidGoal_InvalidPiece ki_InvalidGoal_InvalidProgram ki_InvalidGoal_InvalidText ki_InvalidGoal_InvalidRow ki_InvalidGoal_InvalidTool ki_InvalidGoal_InvalidGoal ki_InvalidGoal_InvalidCommand ki_InvalidGoal_Refused ki_InvalidGoal_NoPiece ki_InvalidGoal_NoRow ki_NoRow_InvalidPiece ki_NoRow_InvalidProgram ki_NoRow_InvalidText ki_NoRow_InvalidRow ki_NoRow_InvalidTool ki_NoRow_InvalidGoal ki_NoRow_InvalidCommand ki_NoRow_Refused ki_NoRow_NoPiece ki_NoRow_NoRow ki_NoPiece_InvalidPiece ki_NoPiece_InvalidProgram ki_NoPiece_InvalidText ki_NoPiece_InvalidRow ki_NoPiece_InvalidTool ki_NoPiece_InvalidGoal ki_NoPiece_InvalidCommand ki_NoPiece_Refused ki_NoPiece_NoPiece ki_NoPiece_NoRow ki_InvalidCommand_InvalidPiece ki_InvalidCommand_InvalidProgram ki_InvalidCommand_InvalidText ki_InvalidCommand_InvalidRow ki_InvalidCommand_InvalidTool ki_InvalidCommand_InvalidGoal ki_InvalidCommand_InvalidCommand ki_InvalidCommand_Refused ki_InvalidCommand_NoPiece ki_InvalidCommand_NoRow ki_LayError_InvalidPiece ki_LayError_InvalidProgram ki_LayError_InvalidText ki_LayError_InvalidRow ki_LayError_InvalidTool ki_LayError_InvalidGoal ki_LayError_InvalidCommand ki_LayError_Refused ki_LayError_NoPiece ki_LayError_NoRow ki_ValueError_InvalidPiece ki_ValueError_InvalidProgram ki_ValueError_InvalidText ki_ValueError_InvalidRow ki_ValueError_InvalidTool ki_ValueError_InvalidGoal ki_ValueError_InvalidCommand ki_ValueError_Refused ki_ValueError_NoPiece ki_ValueError_NoRow a_law_box l_law_box c_law_box k_law_box a_law_take l_law_take c_law_take k_law_take a_law_pick l_law_pick c_law_pick k_law_pick a_law_value l_law_value c_law_value k_law_value a_law_made l_law_made c_law_made k_law_made a_law_sorts l_law_sorts c_law_sorts k_law_sorts a_law_held l_law_held c_law_held k_law_held a_law_named l_law_named c_law_named k_law_named a_law l_law c_law k_law
end Law
open PySem PySem.W PySem.Calls PyProof.Rows
set_option maxRecDepth 100000 in
set_option maxHeartbeats 0 in
theorem PySem.Challenge.cw_laytwice_k01_errors_holds : PySem.Challenge.rw_laytwice_k01_errors.Holds := by
  w_on
  refine LawO.opened fun said => ?_
  refine HandSHeadRun.head_any (r := OpenLaw.row PySem.Challenge.rw_laytwice_k01_errors) (q := view (OpenLaw.row PySem.Challenge.rw_laytwice_k01_errors).prog [21]) (H := LawR.hkQ) (ob := LawR.obQ) (M := 20000) (loose := LawR.looseQ) (d := HandSHeadRun.topDef (OpenLaw.row PySem.Challenge.rw_laytwice_k01_errors).prog 21) (kwd := []) (fun s => LT.obQ_eq s)
    (by kernel_rfl) (fun s => by kernel_rfl) LawR.runQ (by kernel_rfl) (by kernel_rfl) (by kernel_rfl) (by rfl) (by first | assumption | decide +kernel) (by decide +kernel) ⟨rfl, rfl, rfl, rfl, rfl, by decide +kernel⟩ ?hw ?hc
  case hw => w_witness2
  case hc =>
    refine LT.walk_ltE (l := PySem.Challenge.rw_laytwice_k01_errors) (k := 4) (x := "_law_script") rfl (by kernel_rfl) ⟨rfl, by decide, by decide⟩ ?F
    intro w mg fa h Y G hmg0
    obtain ⟨K, KX, c⟩ := Y
    have hmg : mg ("law" : PySem.Str) = some (.ref fa) := by
      have e : (HandSHeadRun.topDef (OpenLaw.row PySem.Challenge.rw_laytwice_k01_errors).prog 21).name = ("law" : PySem.Str) := by kernel_rfl
      rw [← e]
      exact hmg0
    exact ⟨K, KX, Law.facts_mk (l := PySem.Challenge.rw_laytwice_k01_errors) (w := w) KX G hmg c⟩
